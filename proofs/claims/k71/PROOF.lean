import PyProof.Rows.All
import Wide.All
import OpenK.AllK
import Wide.FinOn
import PySem.Challenge.RW_flatmeet_k71_rows_moved
import HandS.ForMost
import HandS.ForExc
import HandS.Iter
import KE.GoesDict
import KE.KDictKeyed
import KE.SortKeyed
import HandS.List
import KE.GoesEnum
import HandS.ExcValue
import HandS.ExcInit
import HandS.ExcField
import HandS.IsInst
import HandS.ExcIs
import HandS.ExcOwn
import HandS.RevRange
import HandS.Comp
import HandS.TupAny
import HandS.Conv
import HandS.Zip
import HandS.WordsExc
import HandS.EndBits
set_option Elab.async false
set_option linter.all false
set_option maxRecDepth 100000
namespace FM
open PySem L2

/-! ## data, modes, representation -/
inductive M | deep | shal | frz | bor | dead
  deriving DecidableEq,
    Inhabited
inductive D where
  | non | bl (b : Bool) | int (i : Int) | str (s : Str)
  | tup (xs : List D) | lst (xs : List D)
  | dct (kvs : List (List Int × Int))
  | ins (C : Str) (ns : List Str) (vs : List D)
  | exc (C : Str) (ns : List Str) (vs : List D)
  | hole
  deriving Inhabited
structure Cfg where
  K : PySem.W.Frag
  cls : Str → Option Addr
def excO (C p : Addr) (d : Option Addr) : HO := .ext fun h => ∃ oe : Obj, h.get? p = some oe ∧ Zc (.ref C) d oe ∧ ∃ vs, oe.data = .fields vs
abbrev Ex (H H' : Hp) : Prop := ∀ a o, H a = some o → H' a = some o
theorem Ex.rfl' {H : Hp} : Ex H H := fun _ _ h => h
theorem Ex.tr {H H1 H2 : Hp} (a : Ex H H1) (b : Ex H1 H2) : Ex H H2 := fun x o h => b x o (a x o h)
theorem Ex.new {H : Hp} {p : Addr} {o : HO} (h : H p = none) : Ex H (upd H p o) := fun a u e => by
  rw [upd_ne (ne_of_none e h)]; exact e
theorem Ex.back {H H' : Hp} {p : Addr} (e : Ex H H') (h : H' p = none) : H p = none := by
  cases q : H p with
  | none => rfl
  | some o => rw [e p o q] at h; cases h
theorem Rd.ex {H H' : Hp} {a : Addr} {u : HO} (e : Ex H H') (h : Rd H a u) : Rd H' a u := by
  rcases h with h | ⟨o, h⟩
  · exact .inl (e _ _ h)
  · exact .inr ⟨o, e _ _ h⟩
theorem SqL.ex {K : PySem.W.Frag} {H H' : Hp} {a : Addr} {xs : List V} (e : Ex H H') (h : SqL K H a xs) : SqL K H' a xs := by
  rcases h with h | h
  · exact .inl (Rd.ex e h)
  · exact .inr h
theorem SqT.ex {K : PySem.W.Frag} {H H' : Hp} {a : Addr} {xs : List V} (e : Ex H H') (h : SqT K H a xs) : SqT K H' a xs := by
  rcases h with h | h
  · exact .inl (Rd.ex e h)
  · exact .inr h
/-- what is never owned -/
def isTup : HO → Bool
  | .lst _ | .dK _ | .dT _ | .set _ _ | .ins _ _ _ | .own _ | .frz _ _ => false
  | _ => true
def dctV (kvs : List (List Int × Int)) : HO := .dT (kvs.map fun p => (p.1.map Sum.inl, V.int p.2))
/-- which heap the unowned lists of a mode are read in -/
def rdH (B H : Hp) : M → Hp
  | .bor => H
  | _ => B
/-- the mode of what a thing of a mode holds -/
def M.inner : M → M
  | .shal => .frz
  | m => m
/-- a mutable cell at p holding o: owned (deep, shal), frozen in B, borrowed in H -/
def Cell (B H : Hp) (m : M) (p : Addr) (o : HO) (L : List Addr) : Prop :=
  match m with
  | .deep | .shal => L = [p] ∧ H p = some o
  | .frz => L = [] ∧ Rd B p o
  | .bor => L = [] ∧ Rd H p o
  | .dead => False
def LCell (K : PySem.W.Frag) (B H : Hp) : M → Addr → List V → List Addr → List Addr → Prop
  | .deep, p, vs, L, L' => L = p :: L' ∧ H p = some (.lst vs)
  | .shal, p, vs, L, L' => L = p :: L' ∧ H p = some (.lst vs)
  | .frz, p, vs, L, L' => L = L' ∧ SqL K B p vs
  | .bor, p, vs, L, L' => L = L' ∧ SqL K H p vs
  | .dead, _, _, _, _ => False
def ICell (B H : Hp) : M → Addr → Addr → HO → List Addr → List Addr → Prop
  | .deep, p, dx, o, L, L' => L = p :: dx :: L' ∧ H p = some o ∧ H dx = some (.own p)
  | .shal, p, dx, o, L, L' => L = p :: dx :: L' ∧ H p = some o ∧ H dx = some (.own p)
  | .frz, p, dx, o, L, L' => L = L' ∧ B p = some o ∧ B dx = some (.own p)
  | .bor, p, dx, o, L, L' => L = L' ∧ H p = some o ∧ H dx = some (.own p)
  | .dead, _, _, _, _, _ => False
def XCell (B : Hp) : Option Addr → List Str → List (Str × V) → Prop
  | none, ns, _ => ns = []
  | some d, ns, fs => ns ≠ [] ∧ B d = some (.xd fs)
theorem XCell.mono {B B' : Hp} {dx : Option Addr} {ns : List Str} {fs : List (Str × V)} (b : ∀ a o, B a = some o → isTup o = true → B' a = some o) (h : XCell B dx ns fs) : XCell B' dx ns fs := by
  cases dx with
  | none => exact h
  | some d => exact ⟨h.1, b _ _ h.2 rfl⟩
mutual
def Rep (c : Cfg) (B H : Hp) : D → M → V → List Addr → Prop
  | .hole, _, _, L => L = []
  | .non, _, v, L => L = [] ∧ v = .non
  | .bl b, _, v, L => L = [] ∧ v = .bl b
  | .int i, _, v, L => L = [] ∧ v = .int i
  | .str s, _, v, L => L = [] ∧ v = .str s
  | .tup ds, m, v, L => ∃ p vs, v = .ref p ∧ B p = some (.tup vs) ∧ Reps c B H ds m vs L
  | .lst ds, m, v, L => ∃ p vs L', v = .ref p ∧ Reps c B H ds m.inner vs L' ∧ LCell c.K B H m p vs L L'
  | .dct kvs, m, v, L => ∃ p, v = .ref p ∧ Cell B H m p (dctV kvs) L
  | .ins C ns ds, m, v, L => ∃ p a dx fs L', v = .ref p ∧ c.cls C = some a ∧ fs.map (·.1) = ns ∧ Reps c B H ds m.inner (fs.map (·.2)) L' ∧ ICell B H m p dx (.ins a dx fs) L L'
  | .exc C ns ds, _, v, L => L = [] ∧ ∃ p a dx fs, v = .ref p ∧ c.cls C = some a ∧ B p = some (excO a p dx) ∧ fs.map (·.1) = ns ∧ Reps c B H ds .deep (fs.map (·.2)) [] ∧
      XCell B dx ns fs
def Reps (c : Cfg) (B H : Hp) : List D → M → List V → List Addr → Prop
  | [], _, vs, L => vs = [] ∧ L = []
  | d :: ds, m, vs, L => ∃ v vs' L1 L2, vs = v :: vs' ∧ L = L1 ++ L2 ∧ Rep c B H d m v L1 ∧ Reps c B H ds m vs' L2
end
theorem Reps.nil_iff {c : Cfg} {B H : Hp} {m vs L} : Reps c B H [] m vs L ↔ vs = [] ∧ L = [] := by unfold Reps; exact Iff.rfl
theorem Reps.cons_iff {c : Cfg} {B H : Hp} {d ds m vs L} : Reps c B H (d :: ds) m vs L ↔ ∃ v vs' L1 L2, vs = v :: vs' ∧ L = L1 ++ L2 ∧ Rep c B H d m v L1 ∧ Reps c B H ds m vs' L2 := by
  conv => lhs; unfold Reps
theorem Reps.len {c : Cfg} {B H : Hp} : ∀ {ds : List D} {m vs L}, Reps c B H ds m vs L → vs.length = ds.length
  | [], _, _, _, h => by rw [(Reps.nil_iff.mp h).1]; rfl
  | d :: ds, _, _, _, h => by
    obtain ⟨v, vs', L1, L2, rfl, rfl, h1, h2⟩ := Reps.cons_iff.mp h
    simp [Reps.len h2]
/-- unowned modes own nothing -/
def M.un : M → Bool
  | .frz | .bor => true
  | _ => false
theorem M.un_inner {m : M} (h : m.un = true) : m.inner.un = true := by cases m <;> first | rfl | cases h
theorem Cell.un {B H : Hp} {m : M} {p : Addr} {o : HO} {L : List Addr} (u : m.un = true) (h : Cell B H m p o L) : L = [] := by
  cases m <;> first | exact h.1 | exact absurd u Bool.false_ne_true
mutual
theorem Rep.unL {c : Cfg} {B H : Hp} : ∀ {d : D} {m v L}, m.un = true → Rep c B H d m v L → L = []
  | .hole, _, _, _, _, h => by unfold Rep at h; exact h
  | .non, _, _, _, _, h => by unfold Rep at h; exact h.1
  | .bl _, _, _, _, _, h => by unfold Rep at h; exact h.1
  | .int _, _, _, _, _, h => by unfold Rep at h; exact h.1
  | .str _, _, _, _, _, h => by unfold Rep at h; exact h.1
  | .tup ds, _, _, _, u, h => by
    unfold Rep at h
    obtain ⟨p, vs, _, _, r⟩ := h
    exact Reps.unL u r
  | .lst ds, m, _, _, u, h => by
    unfold Rep at h
    obtain ⟨p, vs, L', _, r, q⟩ := h
    have e := Reps.unL (M.un_inner u) r
    cases m <;> first | (exact q.elim) | (exact q.1.trans e) | (exact absurd u Bool.false_ne_true)
  | .dct _, _, _, _, u, h => by
    unfold Rep at h
    obtain ⟨p, _, q⟩ := h
    exact Cell.un u q
  | .ins _ _ ds, m, _, _, u, h => by
    unfold Rep at h
    obtain ⟨p, a, dx, fs, L', _, _, _, r, q⟩ := h
    have e := Reps.unL (M.un_inner u) r
    cases m <;> first | (exact q.elim) | (exact q.1.trans e) | (exact absurd u Bool.false_ne_true)
  | .exc _ _ ds, _, _, _, u, h => by
    unfold Rep at h
    exact h.1
theorem Reps.unL {c : Cfg} {B H : Hp} : ∀ {ds : List D} {m vs L}, m.un = true → Reps c B H ds m vs L → L = []
  | [], _, _, _, _, h => (Reps.nil_iff.mp h).2
  | d :: ds, _, _, _, u, h => by
    obtain ⟨v, vs', L1, L2, rfl, rfl, h1, h2⟩ := Reps.cons_iff.mp h
    rw [Rep.unL u h1, Reps.unL u h2]; rfl
end
/-- what may change: B and H grow, the owned cells stay -/
structure Grow (m : M) (B B' H H' : Hp) (L : List Addr) : Prop where
  b : Ex B B'
  l : ∀ p ∈ L, ∀ o, H p = some o → H' p = some o
  h : m = .bor → Ex H H'
theorem Grow.sub {m m' : M} {B B' H H' : Hp} {L L' : List Addr} (g : Grow m B B' H H' L) (hm : m' = .bor → m = .bor) (hs : ∀ p ∈ L', p ∈ L) : Grow m' B B' H H' L' := ⟨g.b, fun p hp => g.l p (hs p hp), fun e => g.h (hm e)⟩
theorem M.inner_bor {m : M} (h : m.inner = .bor) : m = .bor := by cases m <;> first | rfl | cases h
theorem Cell.mono {B B' H H' : Hp} {m : M} {p : Addr} {o : HO} {L : List Addr} (g : Grow m B B' H H' L) (h : Cell B H m p o L) : Cell B' H' m p o L := by
  cases m with
  | deep => exact ⟨h.1, g.l p (by rw [h.1]; exact List.mem_cons_self) _ h.2⟩
  | shal => exact ⟨h.1, g.l p (by rw [h.1]; exact List.mem_cons_self) _ h.2⟩
  | frz => exact ⟨h.1, Rd.ex g.b h.2⟩
  | bor => exact ⟨h.1, Rd.ex (g.h rfl) h.2⟩
  | dead => exact h.elim
mutual
theorem Rep.mono {c : Cfg} {B B' H H' : Hp} : ∀ {d : D} {m v L}, Grow m B B' H H' L → Rep c B H d m v L → Rep c B' H' d m v L
  | .hole, _, _, _, g, h => by unfold Rep at h ⊢; exact h
  | .non, _, _, _, g, h => by unfold Rep at h ⊢; exact h
  | .bl _, _, _, _, g, h => by unfold Rep at h ⊢; exact h
  | .int _, _, _, _, g, h => by unfold Rep at h ⊢; exact h
  | .str _, _, _, _, g, h => by unfold Rep at h ⊢; exact h
  | .tup ds, _, _, _, g, h => by
    unfold Rep at h ⊢
    obtain ⟨p, vs, e, s, r⟩ := h
    exact ⟨p, vs, e, g.b _ _ s, Reps.mono g r⟩
  | .lst ds, m, _, _, g, h => by
    unfold Rep at h ⊢
    obtain ⟨p, vs, L', e, r, q⟩ := h
    refine ⟨p, vs, L', e, Reps.mono (g.sub M.inner_bor fun x hx => ?_) r, ?_⟩
    · cases m with
      | dead => exact q.elim
      | deep => rw [q.1]; exact List.mem_cons_of_mem _ hx
      | shal => rw [q.1]; exact List.mem_cons_of_mem _ hx
      | frz => rw [q.1]; exact hx
      | bor => rw [q.1]; exact hx
    · cases m with
      | dead => exact q.elim
      | deep => exact ⟨q.1, g.l p (by rw [q.1]; exact List.mem_cons_self) _ q.2⟩
      | shal => exact ⟨q.1, g.l p (by rw [q.1]; exact List.mem_cons_self) _ q.2⟩
      | frz => exact ⟨q.1, SqL.ex g.b q.2⟩
      | bor => exact ⟨q.1, SqL.ex (g.h rfl) q.2⟩
  | .dct _, _, _, _, g, h => by
    unfold Rep at h ⊢
    obtain ⟨p, e, q⟩ := h
    exact ⟨p, e, Cell.mono g q⟩
  | .ins _ _ ds, m, _, _, g, h => by
    unfold Rep at h ⊢
    obtain ⟨p, a, dx, fs, L', e, ec, en, r, q⟩ := h
    refine ⟨p, a, dx, fs, L', e, ec, en, Reps.mono (g.sub M.inner_bor fun x hx => ?_) r, ?_⟩
    · cases m with
      | dead => exact q.elim
      | deep => rw [q.1]; exact List.mem_cons_of_mem _ (List.mem_cons_of_mem _ hx)
      | shal => rw [q.1]; exact List.mem_cons_of_mem _ (List.mem_cons_of_mem _ hx)
      | frz => rw [q.1]; exact hx
      | bor => rw [q.1]; exact hx
    · cases m with
      | dead => exact q.elim
      | deep => exact ⟨q.1, g.l p (by rw [q.1]; exact List.mem_cons_self) _ q.2.1, g.l dx (by rw [q.1]; exact List.mem_cons_of_mem _ List.mem_cons_self) _ q.2.2⟩
      | shal => exact ⟨q.1, g.l p (by rw [q.1]; exact List.mem_cons_self) _ q.2.1, g.l dx (by rw [q.1]; exact List.mem_cons_of_mem _ List.mem_cons_self) _ q.2.2⟩
      | frz => exact ⟨q.1, g.b _ _ q.2.1, g.b _ _ q.2.2⟩
      | bor => exact ⟨q.1, g.h rfl _ _ q.2.1, g.h rfl _ _ q.2.2⟩
  | .exc _ _ ds, m, _, _, g, h => by
    unfold Rep at h ⊢
    obtain ⟨eL, p, a, dx, fs, e, ec, eb, en, r, q⟩ := h
    refine ⟨eL, p, a, dx, fs, e, ec, g.b _ _ eb, en, Reps.mono (m := .deep) ⟨g.b, (fun _ z => nomatch z), (fun z => nomatch z)⟩ r, q.mono fun _ _ e _ => g.b _ _ e⟩
theorem Reps.mono {c : Cfg} {B B' H H' : Hp} : ∀ {ds : List D} {m vs L}, Grow m B B' H H' L → Reps c B H ds m vs L → Reps c B' H' ds m vs L
  | [], _, _, _, g, h => Reps.nil_iff.mpr (Reps.nil_iff.mp h)
  | d :: ds, _, _, _, g, h => by
    obtain ⟨v, vs', L1, L2, rfl, rfl, h1, h2⟩ := Reps.cons_iff.mp h
    exact Reps.cons_iff.mpr ⟨v, vs', L1, L2, rfl, rfl, Rep.mono (g.sub id fun _ hx => List.mem_append_left _ hx) h1, Reps.mono (g.sub id fun _ hx => List.mem_append_right _ hx) h2⟩
end
theorem M.inner_frz {m : M} (h : m.un = false ∨ m = .frz) : m.inner.un = false ∨ m.inner = .frz := by
  cases m <;> simp_all [M.un, M.inner]
mutual
/-- all owned cells are given to B -/
theorem Rep.frz {c : Cfg} {B B' H H' : Hp} : ∀ {d : D} {m v L}, m ≠ .bor → Ex B B' → (∀ p ∈ L, ∀ o, H p = some o → B' p = some o) → Rep c B H d m v L → Rep c B' H' d .frz v []
  | .hole, _, _, _, hm, b, l, h => by unfold Rep; rfl
  | .non, _, _, _, hm, b, l, h => by unfold Rep at h ⊢; exact ⟨rfl, h.2⟩
  | .bl _, _, _, _, hm, b, l, h => by unfold Rep at h ⊢; exact ⟨rfl, h.2⟩
  | .int _, _, _, _, hm, b, l, h => by unfold Rep at h ⊢; exact ⟨rfl, h.2⟩
  | .str _, _, _, _, hm, b, l, h => by unfold Rep at h ⊢; exact ⟨rfl, h.2⟩
  | .tup ds, _, _, _, hm, b, l, h => by
    unfold Rep at h ⊢
    obtain ⟨p, vs, e, s, r⟩ := h
    exact ⟨p, vs, e, b _ _ s, Reps.frz hm b l r⟩
  | .lst ds, m, _, _, hm, b, l, h => by
    unfold Rep at h ⊢
    obtain ⟨p, vs, L', e, r, q⟩ := h
    have hi : m.inner ≠ .bor := fun z => hm (M.inner_bor z)
    have hs : ∀ x ∈ L', ∀ o, H x = some o → B' x = some o := fun x hx => by
      refine l x ?_
      cases m with
      | dead => exact q.elim
      | deep => rw [q.1]; exact List.mem_cons_of_mem _ hx
      | shal => rw [q.1]; exact List.mem_cons_of_mem _ hx
      | frz => rw [q.1]; exact hx
      | bor => exact absurd rfl hm
    refine ⟨p, vs, [], e, Reps.frz hi b hs r, rfl, ?_⟩
    cases m with
    | dead => exact q.elim
    | deep => exact SqL.of (l p (by rw [q.1]; exact List.mem_cons_self) _ q.2)
    | shal => exact SqL.of (l p (by rw [q.1]; exact List.mem_cons_self) _ q.2)
    | frz => exact SqL.ex b q.2
    | bor => exact absurd rfl hm
  | .dct _, m, _, _, hm, b, l, h => by
    unfold Rep at h ⊢
    obtain ⟨p, e, q⟩ := h
    refine ⟨p, e, rfl, ?_⟩
    cases m with
    | dead => exact q.elim
    | deep => exact .inl (l p (by rw [q.1]; exact List.mem_cons_self) _ q.2)
    | shal => exact .inl (l p (by rw [q.1]; exact List.mem_cons_self) _ q.2)
    | frz => exact Rd.ex b q.2
    | bor => exact absurd rfl hm
  | .ins _ _ ds, m, _, _, hm, b, l, h => by
    unfold Rep at h ⊢
    obtain ⟨p, a, dx, fs, L', e, ec, en, r, q⟩ := h
    have hi : m.inner ≠ .bor := fun z => hm (M.inner_bor z)
    have hs : ∀ x ∈ L', ∀ o, H x = some o → B' x = some o := fun x hx => by
      refine l x ?_
      cases m with
      | dead => exact q.elim
      | deep => rw [q.1]; exact List.mem_cons_of_mem _ (List.mem_cons_of_mem _ hx)
      | shal => rw [q.1]; exact List.mem_cons_of_mem _ (List.mem_cons_of_mem _ hx)
      | frz => rw [q.1]; exact hx
      | bor => exact absurd rfl hm
    refine ⟨p, a, dx, fs, [], e, ec, en, Reps.frz hi b hs r, rfl, ?_⟩
    cases m with
    | dead => exact q.elim
    | deep => exact ⟨l p (by rw [q.1]; exact List.mem_cons_self) _ q.2.1, l dx (by rw [q.1]; exact List.mem_cons_of_mem _ List.mem_cons_self) _ q.2.2⟩
    | shal => exact ⟨l p (by rw [q.1]; exact List.mem_cons_self) _ q.2.1, l dx (by rw [q.1]; exact List.mem_cons_of_mem _ List.mem_cons_self) _ q.2.2⟩
    | frz => exact ⟨b _ _ q.2.1, b _ _ q.2.2⟩
    | bor => exact absurd rfl hm
  | .exc _ _ ds, m, _, _, _, b, l, h => by
    unfold Rep at h ⊢
    obtain ⟨eL, p, a, dx, fs, e, ec, eb, en, r, q⟩ := h
    refine ⟨rfl, p, a, dx, fs, e, ec, b _ _ eb, en, Reps.mono (m := .deep) ⟨b, (fun _ z => nomatch z), (fun z => nomatch z)⟩ r, q.mono fun _ _ e _ => b _ _ e⟩
theorem Reps.frz {c : Cfg} {B B' H H' : Hp} : ∀ {ds : List D} {m vs L}, m ≠ .bor → Ex B B' → (∀ p ∈ L, ∀ o, H p = some o → B' p = some o) → Reps c B H ds m vs L → Reps c B' H' ds .frz vs []
  | [], _, _, _, hm, b, l, h => Reps.nil_iff.mpr ⟨(Reps.nil_iff.mp h).1, rfl⟩
  | d :: ds, _, _, _, hm, b, l, h => by
    obtain ⟨v, vs', L1, L2, rfl, rfl, h1, h2⟩ := Reps.cons_iff.mp h
    exact Reps.cons_iff.mpr ⟨v, vs', [], [], rfl, rfl, Rep.frz hm b (fun p hp => l p (List.mem_append_left _ hp)) h1, Reps.frz hm b (fun p hp => l p (List.mem_append_right _ hp)) h2⟩
end
mutual
/-- a borrowed look -/
theorem Rep.bor {c : Cfg} {B H : Hp} : ∀ {d : D} {m v L}, Ex B H → Rep c B H d m v L → Rep c B H d .bor v []
  | .hole, _, _, _, b, h => by unfold Rep; rfl
  | .non, _, _, _, b, h => by unfold Rep at h ⊢; exact ⟨rfl, h.2⟩
  | .bl _, _, _, _, b, h => by unfold Rep at h ⊢; exact ⟨rfl, h.2⟩
  | .int _, _, _, _, b, h => by unfold Rep at h ⊢; exact ⟨rfl, h.2⟩
  | .str _, _, _, _, b, h => by unfold Rep at h ⊢; exact ⟨rfl, h.2⟩
  | .tup ds, _, _, _, b, h => by
    unfold Rep at h ⊢
    obtain ⟨p, vs, e, s, r⟩ := h
    exact ⟨p, vs, e, s, Reps.bor b r⟩
  | .lst ds, m, _, _, b, h => by
    unfold Rep at h ⊢
    obtain ⟨p, vs, L', e, r, q⟩ := h
    refine ⟨p, vs, [], e, Reps.bor b r, rfl, ?_⟩
    cases m with
    | dead => exact q.elim
    | deep => exact SqL.of q.2
    | shal => exact SqL.of q.2
    | frz => exact SqL.ex b q.2
    | bor => exact q.2
  | .dct _, m, _, _, b, h => by
    unfold Rep at h ⊢
    obtain ⟨p, e, q⟩ := h
    refine ⟨p, e, rfl, ?_⟩
    cases m with
    | dead => exact q.elim
    | deep => exact .inl q.2
    | shal => exact .inl q.2
    | frz => exact Rd.ex b q.2
    | bor => exact q.2
  | .ins _ _ ds, m, _, _, b, h => by
    unfold Rep at h ⊢
    obtain ⟨p, a, dx, fs, L', e, ec, en, r, q⟩ := h
    refine ⟨p, a, dx, fs, [], e, ec, en, Reps.bor b r, rfl, ?_⟩
    cases m with
    | dead => exact q.elim
    | deep => exact q.2
    | shal => exact q.2
    | frz => exact ⟨b _ _ q.2.1, b _ _ q.2.2⟩
    | bor => exact q.2
  | .exc _ _ ds, m, _, _, b, h => by
    unfold Rep at h ⊢
    exact ⟨rfl, h.2⟩
theorem Reps.bor {c : Cfg} {B H : Hp} : ∀ {ds : List D} {m vs L}, Ex B H → Reps c B H ds m vs L → Reps c B H ds .bor vs []
  | [], _, _, _, b, h => Reps.nil_iff.mpr ⟨(Reps.nil_iff.mp h).1, rfl⟩
  | d :: ds, _, _, _, b, h => by
    obtain ⟨v, vs', L1, L2, rfl, rfl, h1, h2⟩ := Reps.cons_iff.mp h
    exact Reps.cons_iff.mpr ⟨v, vs', [], [], rfl, rfl, Rep.bor b h1, Reps.bor b h2⟩
end

/-! ## entries: what a state holds -/
structure En where
  m : M
  d : D
  v : Option V
def EnR (c : Cfg) (B H : Hp) (e : En) (L : List Addr) : Prop :=
  (L = [] ∧ (e.m = .dead ∨ e.d = .hole)) ∨ (e.m ≠ .dead ∧ ∃ v, e.v = some v ∧ Rep c B H e.d e.m v L)
def EnRs (c : Cfg) (B H : Hp) : List En → List Addr → Prop
  | [], L => L = []
  | e :: es, L => ∃ L1 L2, L = L1 ++ L2 ∧ EnR c B H e L1 ∧ EnRs c B H es L2
theorem EnR.mono {c : Cfg} {B B' H H' : Hp} {e : En} {L : List Addr} (g : Grow e.m B B' H H' L) (h : EnR c B H e L) : EnR c B' H' e L := by
  rcases h with h | ⟨h1, v, h2, h3⟩
  · exact .inl h
  · exact .inr ⟨h1, v, h2, Rep.mono g h3⟩
theorem EnRs.mono {c : Cfg} {B B' H H' : Hp} (b : Ex B B') : ∀ {es : List En} {L : List Addr}, (∀ p ∈ L, ∀ o, H p = some o → H' p = some o) → (Ex H H' ∨ ∀ e ∈ es, e.m ≠ .bor) → EnRs c B H es L → EnRs c B' H' es L
  | [], _, _, _, h => h
  | e :: es, L, l, n, h => by
    obtain ⟨L1, L2, rfl, h1, h2⟩ := h
    refine ⟨L1, L2, rfl, EnR.mono ⟨b, fun p hp => l p (List.mem_append_left _ hp), fun z => ?_⟩ h1, EnRs.mono b (fun p hp => l p (List.mem_append_right _ hp)) ?_ h2⟩
    · rcases n with n | n
      · exact n
      · exact absurd z (n e List.mem_cons_self)
    · rcases n with n | n
      · exact .inl n
      · exact .inr fun x hx => n x (List.mem_cons_of_mem _ hx)
theorem EnRs.append {c : Cfg} {B H : Hp} : ∀ {es fs : List En} {L : List Addr}, EnRs c B H (es ++ fs) L ↔ ∃ L1 L2, L = L1 ++ L2 ∧ EnRs c B H es L1 ∧ EnRs c B H fs L2
  | [], fs, L => by
    constructor
    · intro h; exact ⟨[], L, rfl, rfl, h⟩
    · rintro ⟨L1, L2, rfl, h1, h2⟩; cases h1; exact h2
  | e :: es, fs, L => by
    constructor
    · rintro ⟨L1, L2, rfl, h1, h2⟩
      obtain ⟨L3, L4, rfl, h3, h4⟩ := EnRs.append.mp h2
      exact ⟨L1 ++ L3, L4, (List.append_assoc ..).symm, ⟨L1, L3, rfl, h1, h3⟩, h4⟩
    · rintro ⟨L1, L2, rfl, ⟨L3, L4, rfl, h1, h2⟩, h3⟩
      exact ⟨L3, L4 ++ L2, List.append_assoc .., h1, EnRs.append.mpr ⟨L4, L2, rfl, h2, h3⟩⟩
theorem EnRs.perm {c : Cfg} {B H : Hp} {es es' : List En} (p : es.Perm es') : ∀ {L : List Addr}, EnRs c B H es L → ∃ L', L.Perm L' ∧ EnRs c B H es' L' := by
  induction p with
  | nil => intro L h; exact ⟨L, .refl _, h⟩
  | cons x _ ih =>
    rintro L ⟨L1, L2, rfl, h1, h2⟩
    obtain ⟨L3, q, h3⟩ := ih h2
    exact ⟨L1 ++ L3, q.append_left _, L1, L3, rfl, h1, h3⟩
  | swap x y l =>
    rintro L ⟨L1, _, rfl, h1, L2, L3, rfl, h2, h3⟩
    refine ⟨L2 ++ (L1 ++ L3), ?_, L2, L1 ++ L3, rfl, h2, L1, L3, rfl, h1, h3⟩
    rw [← List.append_assoc, ← List.append_assoc]
    exact List.perm_append_comm.append_right _
  | trans _ _ ih1 ih2 =>
    intro L h
    obtain ⟨L1, q1, h1⟩ := ih1 h
    obtain ⟨L2, q2, h2⟩ := ih2 h1
    exact ⟨L2, q1.trans q2, h2⟩

/-- the state: H0 the heap at the def's entry, B what is frozen, es this def's entries, fr the callers' -/
structure HA (c : Cfg) (H0 B H : Hp) (es fr : List En) : Prop where
  ex : ∃ L1 L2, EnRs c B H es L1 ∧ EnRs c B H fr L2 ∧ (L1 ++ L2).Nodup ∧ (∀ p ∈ L1, H0 p = none) ∧ ∀ p ∈ L1 ++ L2, B p = none
  bh : Ex B H
  h0 : Ex H0 H
  nb : ∀ e ∈ fr, e.m ≠ .bor
section
variable {c : Cfg} {H0 B B' H H' : Hp} {es es' fr : List En} {e : En} {m : M} {d : D} {v : V} {ov : Option V}
theorem HA.perm (h : HA c H0 B H es fr) (p : es.Perm es') : HA c H0 B H es' fr := by
  obtain ⟨L1, L2, h1, h2, nd, f0, fb⟩ := h.ex
  obtain ⟨L3, q, h3⟩ := h1.perm p
  refine ⟨⟨L3, L2, h3, h2, (q.append_right L2).nodup_iff.mp nd, fun x hx => f0 x (q.mem_iff.mpr hx), fun x hx => fb x ?_⟩, h.bh, h.h0, h.nb⟩
  rcases List.mem_append.mp hx with hx | hx
  · exact List.mem_append_left _ (q.mem_iff.mpr hx)
  · exact List.mem_append_right _ hx
theorem HA.drop (h : HA c H0 B H (e :: es) fr) : HA c H0 B H es fr := by
  obtain ⟨_, L2, ⟨L3, L4, rfl, h1, h3⟩, h2, nd, f0, fb⟩ := h.ex
  refine ⟨⟨L4, L2, h3, h2, ?_, fun x hx => f0 x (List.mem_append_right _ hx), fun x hx => fb x ?_⟩, h.bh, h.h0, h.nb⟩
  · rw [List.append_assoc] at nd
    exact (List.nodup_append.mp nd).2.1
  · rw [List.append_assoc]
    exact List.mem_append_right _ hx
/-- only new cells: all stays -/
theorem HA.grow (h : HA c H0 B H es fr) (g : Ex H H') : HA c H0 B H' es fr := by
  obtain ⟨L1, L2, h1, h2, nd, f0, fb⟩ := h.ex
  exact ⟨⟨L1, L2, h1.mono Ex.rfl' (fun p _ o => g p o) (.inl g), h2.mono Ex.rfl' (fun p _ o => g p o) (.inl g), nd, f0, fb⟩, h.bh.tr g, h.h0.tr g, h.nb⟩
/-- B grows by what no one owns -/
theorem HA.growB (h : HA c H0 B H es fr) (b : Ex B B') (b' : Ex B' H) (hn : ∀ L1 L2, EnRs c B H es L1 → EnRs c B H fr L2 → ∀ p ∈ L1 ++ L2, B' p = none) : HA c H0 B' H es fr := by
  obtain ⟨L1, L2, h1, h2, nd, f0, fb⟩ := h.ex
  exact ⟨⟨L1, L2, h1.mono b (fun p _ o e => e) (.inl Ex.rfl'), h2.mono b (fun p _ o e => e) (.inl Ex.rfl'), nd, f0, hn L1 L2 h1 h2⟩, b', h.h0, h.nb⟩
theorem EnR.un {c : Cfg} {B H : Hp} {e : En} {L : List Addr} (u : e.m.un = true) (h : EnR c B H e L) : L = [] := by
  rcases h with h | ⟨_, v, _, h⟩
  · exact h.1
  · exact Rep.unL u h
/-- what owns nothing may be told twice -/
theorem HA.dup (h : HA c H0 B H (e :: es) fr) (u : e.m.un = true) : HA c H0 B H (e :: e :: es) fr := by
  obtain ⟨L1, L2, ⟨L3, L4, rfl, h1, h3⟩, h2, nd, f0, fb⟩ := h.ex
  have z := EnR.un u h1
  subst z
  exact ⟨⟨L4, L2, ⟨[], L4, rfl, h1, ⟨[], L4, rfl, h1, h3⟩⟩, h2, nd, f0, fb⟩, h.bh, h.h0, h.nb⟩
theorem HA.rep (h : HA c H0 B H (⟨m, d, ov⟩ :: es) fr) (hm : m ≠ .dead) (hd : d ≠ .hole) : ∃ v L, ov = some v ∧ Rep c B H d m v L := by
  obtain ⟨L1, L2, ⟨L3, L4, rfl, h1, h3⟩, h2, nd, f0, fb⟩ := h.ex
  rcases h1 with ⟨_, h1 | h1⟩ | ⟨_, v, e, r⟩
  · exact absurd h1 hm
  · exact absurd h1 hd
  · exact ⟨v, L3, e, r⟩
theorem HA.borrow (h : HA c H0 B H (⟨m, d, ov⟩ :: es) fr) (hm : m ≠ .dead) : HA c H0 B H (⟨.bor, d, ov⟩ :: ⟨m, d, ov⟩ :: es) fr := by
  obtain ⟨L1, L2, ⟨L3, L4, rfl, h1, h3⟩, h2, nd, f0, fb⟩ := h.ex
  refine ⟨⟨L3 ++ L4, L2, ⟨[], L3 ++ L4, rfl, ?_, ⟨L3, L4, rfl, h1, h3⟩⟩, h2, nd, f0, fb⟩, h.bh, h.h0, h.nb⟩
  rcases h1 with ⟨z, h1 | h1⟩ | ⟨_, v, e, r⟩
  · exact absurd h1 hm
  · exact .inl ⟨rfl, .inr h1⟩
  · exact .inr ⟨(fun z => nomatch z), v, e, Rep.bor h.bh r⟩
/-- B and the cells of L, as they stand in H -/
def addB (B H : Hp) (L : List Addr) : Hp := fun a => if a ∈ L then H a else B a
theorem addB_in {B H : Hp} {L : List Addr} {a : Addr} (h : a ∈ L) : addB B H L a = H a := by unfold addB; rw [if_pos h]
theorem addB_out {B H : Hp} {L : List Addr} {a : Addr} (h : a ∉ L) : addB B H L a = B a := by unfold addB; rw [if_neg h]
theorem addB_ex {B H : Hp} {L : List Addr} (h : ∀ p ∈ L, B p = none) : Ex B (addB B H L) := fun a o e => by
  rw [addB_out (fun z => by rw [h a z] at e; cases e)]; exact e
theorem addB_le {B H : Hp} {L : List Addr} (h : Ex B H) : Ex (addB B H L) H := fun a o e => by
  by_cases z : a ∈ L
  · rw [addB_in z] at e; exact e
  · rw [addB_out z] at e; exact h a o e
theorem HA.freeze (h : HA c H0 B H (⟨m, d, ov⟩ :: es) fr) (hm : m ≠ .bor) (hm2 : m ≠ .dead) : ∃ B', Ex B B' ∧ HA c H0 B' H (⟨.frz, d, ov⟩ :: es) fr := by
  obtain ⟨L1, L2, ⟨L3, L4, rfl, h1, h3⟩, h2, nd, f0, fb⟩ := h.ex
  have fb3 : ∀ p ∈ L3, B p = none := fun p hp => fb p (List.mem_append_left _ (List.mem_append_left _ hp))
  have b := addB_ex (H := H) fb3
  rw [List.append_assoc] at nd
  have dis := (List.nodup_append.mp nd).2.2
  refine ⟨addB B H L3, b, ⟨⟨L4, L2, ⟨[], L4, rfl, ?_, h3.mono b (fun _ _ _ e => e) (.inl Ex.rfl')⟩, h2.mono b (fun _ _ _ e => e) (.inl Ex.rfl'), (List.nodup_append.mp nd).2.1, fun p hp => f0 p (List.mem_append_right _ hp), fun p hp => ?_⟩, addB_le h.bh, h.h0, h.nb⟩⟩
  · rcases h1 with ⟨z, h1 | h1⟩ | ⟨_, v, e, r⟩
    · exact absurd h1 hm2
    · exact .inl ⟨rfl, .inr h1⟩
    · exact .inr ⟨(fun z => nomatch z), v, e, Rep.frz hm b (fun p hp o e => by rw [addB_in hp]; exact e) r⟩
  · rw [addB_out (fun z => dis p z p hp rfl)]
    refine fb p ?_
    rw [List.append_assoc]
    exact List.mem_append_right _ hp
/-- entries by their places -/
theorem perm_at {es : List En} {i : Nat} (h : es[i]? = some e) (x : En) : (x :: es).Perm (e :: es.set i x) := by
  induction es generalizing i with
  | nil => simp at h
  | cons y r ih =>
    cases i with
    | zero =>
      simp at h; subst h
      exact .swap ..
    | succ i =>
      have q := ih (i := i) (by simpa using h)
      show (x :: y :: r).Perm (e :: y :: r.set i x)
      exact (List.Perm.swap y x r).trans ((q.cons y).trans (.swap ..))
abbrev gone : En := ⟨.dead, .non, none⟩
theorem HA.addGone (h : HA c H0 B H es fr) : HA c H0 B H (gone :: es) fr := by
  obtain ⟨L1, L2, h1, h2, nd, f0, fb⟩ := h.ex
  exact ⟨⟨L1, L2, ⟨[], L1, rfl, .inl ⟨rfl, .inl rfl⟩, h1⟩, h2, nd, f0, fb⟩, h.bh, h.h0, h.nb⟩
theorem HA.addDead (h : HA c H0 B H es fr) (d : D) (ov : Option V) : HA c H0 B H (⟨.dead, d, ov⟩ :: es) fr := by
  obtain ⟨L1, L2, h1, h2, nd, f0, fb⟩ := h.ex
  exact ⟨⟨L1, L2, ⟨[], L1, rfl, .inl ⟨rfl, .inl rfl⟩, h1⟩, h2, nd, f0, fb⟩, h.bh, h.h0, h.nb⟩
/-- entry i taken out (its place dead) -/
theorem HA.takeOut (h : HA c H0 B H es fr) {i : Nat} (hi : es[i]? = some e) (d : D) (ov : Option V) : HA c H0 B H (e :: es.set i ⟨.dead, d, ov⟩) fr := (h.addDead d ov).perm (perm_at hi _)
/-- an entry put at place i -/
theorem HA.putIn (h : HA c H0 B H (e :: es) fr) {i : Nat} (hi : i < es.length) : HA c H0 B H (es.set i e) fr := by
  have q := h.perm (perm_at (List.getElem?_eq_getElem hi) e)
  exact q.drop
end
end FM

set_option Elab.async false
set_option linter.all false
set_option maxRecDepth 100000
namespace FM
open PySem L2
/-! ## entries of several things -/
def ents (m : M) : List D → List V → List En
  | d :: ds, v :: vs => ⟨m, d, some v⟩ :: ents m ds vs
  | _, _ => []
theorem hole_rep {c : Cfg} {B H : Hp} {m : M} {v : V} {L : List Addr} : Rep c B H .hole m v L ↔ L = [] := by unfold Rep; exact Iff.rfl
theorem EnR.some_iff {c : Cfg} {B H : Hp} {m : M} {d : D} {v : V} {L : List Addr} (hm : m ≠ .dead) : EnR c B H ⟨m, d, some v⟩ L ↔ Rep c B H d m v L := by
  constructor
  · rintro (⟨e, h | h⟩ | ⟨_, w, e, r⟩)
    · exact absurd h hm
    · have h' : d = .hole := h
      subst h'; exact hole_rep.mpr e
    · cases e; exact r
  · intro r; exact .inr ⟨hm, v, rfl, r⟩
theorem ents_iff {c : Cfg} {B H : Hp} {m : M} (hm : m ≠ .dead) : ∀ {ds : List D} {vs : List V} {L : List Addr}, vs.length = ds.length → (EnRs c B H (ents m ds vs) L ↔ Reps c B H ds m vs L)
  | [], [], L, _ => by
    show L = [] ↔ _
    rw [Reps.nil_iff]; exact ⟨fun h => ⟨rfl, h⟩, fun h => h.2⟩
  | [], _ :: _, _, h => by simp at h
  | _ :: _, [], _, h => by simp at h
  | d :: ds, v :: vs, L, h => by
    have h' : vs.length = ds.length := by simpa using h
    rw [Reps.cons_iff]
    constructor
    · rintro ⟨L1, L2, e, h1, h2⟩
      exact ⟨v, vs, L1, L2, rfl, e, (EnR.some_iff hm).mp h1, (ents_iff hm h').mp h2⟩
    · rintro ⟨v', vs', L1, L2, e1, e, h1, h2⟩
      cases e1
      exact ⟨L1, L2, e, (EnR.some_iff hm).mpr h1, (ents_iff hm h').mpr h2⟩
mutual
/-- what is owned stands in H, and is no tuple -/
theorem Rep.own {c : Cfg} {B H : Hp} : ∀ {d : D} {m v L}, Rep c B H d m v L → ∀ p ∈ L, ∃ o, H p = some o ∧ isTup o = false
  | .hole, _, _, _, h => by unfold Rep at h; rw [h]; exact fun _ z => nomatch z
  | .non, _, _, _, h => by unfold Rep at h; rw [h.1]; exact fun _ z => nomatch z
  | .bl _, _, _, _, h => by unfold Rep at h; rw [h.1]; exact fun _ z => nomatch z
  | .int _, _, _, _, h => by unfold Rep at h; rw [h.1]; exact fun _ z => nomatch z
  | .str _, _, _, _, h => by unfold Rep at h; rw [h.1]; exact fun _ z => nomatch z
  | .tup ds, _, _, _, h => by
    unfold Rep at h
    obtain ⟨p, vs, e, s, r⟩ := h
    exact Reps.own r
  | .lst ds, m, _, _, h => by
    unfold Rep at h
    obtain ⟨p, vs, L', e, r, q⟩ := h
    have ih := Reps.own r
    cases m with
    | dead => exact q.elim
    | deep =>
      rw [q.1]; intro x hx
      rcases List.mem_cons.mp hx with rfl | hx
      · exact ⟨_, q.2, rfl⟩
      · exact ih x hx
    | shal =>
      rw [q.1]; intro x hx
      rcases List.mem_cons.mp hx with rfl | hx
      · exact ⟨_, q.2, rfl⟩
      · exact ih x hx
    | frz => rw [q.1]; exact ih
    | bor => rw [q.1]; exact ih
  | .dct _, m, _, _, h => by
    unfold Rep at h
    obtain ⟨p, e, q⟩ := h
    cases m with
    | dead => exact q.elim
    | deep => rw [q.1]; intro x hx; rw [List.mem_singleton.mp hx]; exact ⟨_, q.2, rfl⟩
    | shal => rw [q.1]; intro x hx; rw [List.mem_singleton.mp hx]; exact ⟨_, q.2, rfl⟩
    | frz => rw [q.1]; exact fun _ z => nomatch z
    | bor => rw [q.1]; exact fun _ z => nomatch z
  | .ins _ _ ds, m, _, _, h => by
    unfold Rep at h
    obtain ⟨p, a, dx, fs, L', e, ec, en, r, q⟩ := h
    have ih := Reps.own r
    cases m with
    | dead => exact q.elim
    | deep =>
      rw [q.1]; intro x hx
      rcases List.mem_cons.mp hx with rfl | hx
      · exact ⟨_, q.2.1, rfl⟩
      · rcases List.mem_cons.mp hx with rfl | hx
        · exact ⟨_, q.2.2, rfl⟩
        · exact ih x hx
    | shal =>
      rw [q.1]; intro x hx
      rcases List.mem_cons.mp hx with rfl | hx
      · exact ⟨_, q.2.1, rfl⟩
      · rcases List.mem_cons.mp hx with rfl | hx
        · exact ⟨_, q.2.2, rfl⟩
        · exact ih x hx
    | frz => rw [q.1]; exact ih
    | bor => rw [q.1]; exact ih
  | .exc _ _ ds, m, _, _, h => by
    unfold Rep at h
    rw [h.1]; exact fun _ z => nomatch z
theorem Reps.own {c : Cfg} {B H : Hp} : ∀ {ds : List D} {m vs L}, Reps c B H ds m vs L → ∀ p ∈ L, ∃ o, H p = some o ∧ isTup o = false
  | [], _, _, _, h => by rw [(Reps.nil_iff.mp h).2]; exact fun _ z => nomatch z
  | d :: ds, _, _, _, h => by
    obtain ⟨v, vs', L1, L2, rfl, rfl, h1, h2⟩ := Reps.cons_iff.mp h
    intro x hx
    rcases List.mem_append.mp hx with hx | hx
    · exact Rep.own h1 x hx
    · exact Reps.own h2 x hx
end
theorem EnRs.own {c : Cfg} {B H : Hp} : ∀ {es : List En} {L : List Addr}, EnRs c B H es L → ∀ p ∈ L, ∃ o, H p = some o ∧ isTup o = false
  | [], _, h => by
    have h' : _ = [] := h
    rw [h']; exact fun _ z => nomatch z
  | e :: es, _, h => by
    obtain ⟨L1, L2, rfl, h1, h2⟩ := h
    intro x hx
    rcases List.mem_append.mp hx with hx | hx
    · rcases h1 with ⟨z, _⟩ | ⟨_, v, _, r⟩
      · rw [z] at hx; cases hx
      · exact Rep.own r x hx
    · exact EnRs.own h2 x hx
section
variable {c : Cfg} {H0 B B' H H' : Hp} {es es' fr : List En} {e : En} {m : M} {d : D} {ds : List D} {v : V} {vs : List V} {ov : Option V} {p : Addr}
theorem HA.own (h : HA c H0 B H es fr) : ∃ L1 L2, EnRs c B H es L1 ∧ EnRs c B H fr L2 ∧ (L1 ++ L2).Nodup ∧ (∀ p ∈ L1, H0 p = none) ∧ (∀ p ∈ L1 ++ L2, B p = none) ∧ ∀ p ∈ L1 ++ L2, ∃ o, H p = some o ∧ isTup o = false := by
  obtain ⟨L1, L2, h1, h2, nd, f0, fb⟩ := h.ex
  refine ⟨L1, L2, h1, h2, nd, f0, fb, fun x hx => ?_⟩
  rcases List.mem_append.mp hx with hx | hx
  · exact h1.own x hx
  · exact h2.own x hx
theorem not_mem_of {L : List Addr} (h : ∀ q ∈ L, ∃ o, H q = some o ∧ isTup o = false) (n : H p = none) : p ∉ L := fun z => by
  obtain ⟨o, e, _⟩ := h p z
  rw [n] at e; cases e
/-- a new list of what was told -/
theorem HA.newL (h : HA c H0 B H (ents m.inner ds vs ++ es) fr) (hm : m = .deep ∨ m = .shal) (hl : vs.length = ds.length) (n : H p = none) : HA c H0 B (upd H p (.lst vs)) (⟨m, .lst ds, some (.ref p)⟩ :: es) fr := by
  obtain ⟨_, L2, h1, h2, nd, f0, fb, ow⟩ := h.own
  obtain ⟨L3, L4, rfl, h3, h4⟩ := EnRs.append.mp h1
  have hmi : m.inner ≠ .dead := by rcases hm with rfl | rfl <;> exact fun z => nomatch z
  have hmb : m.inner ≠ .bor := by rcases hm with rfl | rfl <;> exact fun z => nomatch z
  have g : Ex H (upd H p (.lst vs)) := Ex.new n
  have np := not_mem_of ow n
  have r := (ents_iff hmi hl).mp h3
  refine ⟨⟨p :: (L3 ++ L4), L2, ⟨p :: L3, L4, rfl, ?_, h4.mono Ex.rfl' (fun _ _ o => g _ o) (.inl g)⟩, h2.mono Ex.rfl' (fun _ _ o => g _ o) (.inl g), List.nodup_cons.mpr ⟨np, nd⟩, fun x hx => ?_, fun x hx => ?_⟩, h.bh.tr g, h.h0.tr g, h.nb⟩
  · refine (EnR.some_iff (by rcases hm with rfl | rfl <;> exact fun z => nomatch z)).mpr ?_
    unfold Rep
    refine ⟨p, vs, L3, rfl, Reps.mono ⟨Ex.rfl', fun _ _ o => g _ o, fun z => absurd z hmb⟩ r, ?_⟩
    rcases hm with rfl | rfl <;> exact ⟨rfl, upd_same⟩
  · rcases List.mem_cons.mp hx with rfl | hx
    · exact Ex.back h.h0 n
    · exact f0 x hx
  · rcases List.mem_cons.mp (by simpa using hx : x ∈ p :: ((L3 ++ L4) ++ L2)) with rfl | hx
    · exact Ex.back h.bh n
    · exact fb x hx
/-- a new tuple -/
theorem HA.newT (h : HA c H0 B H (ents m ds vs ++ es) fr) (hm : m ≠ .dead) (hl : vs.length = ds.length) (n : H p = none) : Ex B (upd B p (.tup vs)) ∧ HA c H0 (upd B p (.tup vs)) (upd H p (.tup vs)) (⟨m, .tup ds, some (.ref p)⟩ :: es) fr := by
  obtain ⟨_, L2, h1, h2, nd, f0, fb, ow⟩ := h.own
  obtain ⟨L3, L4, rfl, h3, h4⟩ := EnRs.append.mp h1
  have g : Ex H (upd H p (.tup vs)) := Ex.new n
  have b : Ex B (upd B p (.tup vs)) := Ex.new (Ex.back h.bh n)
  have np := not_mem_of ow n
  have r := (ents_iff hm hl).mp h3
  refine ⟨b, ⟨⟨L3 ++ L4, L2, ⟨L3, L4, rfl, ?_, h4.mono b (fun _ _ o => g _ o) (.inl g)⟩, h2.mono b (fun _ _ o => g _ o) (.inl g), nd, f0, fun x hx => ?_⟩, fun a o e => ?_, h.h0.tr g, h.nb⟩⟩
  · refine (EnR.some_iff hm).mpr ?_
    unfold Rep
    exact ⟨p, vs, rfl, upd_same, Reps.mono ⟨b, fun _ _ o => g _ o, fun _ => g⟩ r⟩
  · have nx : x ≠ p := fun z => np (by rw [← z]; exact hx)
    rw [upd_ne nx]
    exact fb x hx
  · by_cases z : a = p
    · subst z; rw [upd_same] at e ⊢; exact e
    · rw [upd_ne z] at e ⊢; exact h.bh a o e
/-- an error that is tracked from now on -/
theorem HA.newX {C : Str} {ns : List Str} {q : Addr} {dx : Option Addr} {fs : List (Str × V)} (h : HA c H0 B H es fr) (n : H p = none) (hc : c.cls C = some q) (en : fs.map (·.1) = ns) (r : Reps c B H ds .deep (fs.map (·.2)) []) (xc : XCell B dx ns fs) :
    Ex B (upd B p (excO q p dx)) ∧ HA c H0 (upd B p (excO q p dx)) (upd H p (excO q p dx)) (⟨.frz, .exc C ns ds, some (.ref p)⟩ :: es) fr := by
  obtain ⟨L1, L2, h1, h2, nd, f0, fb, ow⟩ := h.own
  have g : Ex H (upd H p (excO q p dx)) := Ex.new n
  have b : Ex B (upd B p (excO q p dx)) := Ex.new (Ex.back h.bh n)
  have np := not_mem_of ow n
  refine ⟨b, ⟨⟨L1, L2, ⟨[], L1, rfl, (EnR.some_iff (m := .frz) (fun z => nomatch z)).mpr ?_, h1.mono b (fun _ _ o => g _ o) (.inl g)⟩, h2.mono b (fun _ _ o => g _ o) (.inl g), nd, f0, fun x hx => ?_⟩, fun x o e => ?_, h.h0.tr g, h.nb⟩⟩
  · unfold Rep
    exact ⟨rfl, p, q, dx, fs, rfl, hc, upd_same, en, Reps.mono (m := .deep) ⟨b, (fun _ z => nomatch z), (fun z => nomatch z)⟩ r, xc.mono fun x o e _ => b x o e⟩
  · have nx : x ≠ p := fun z => np (by rw [← z]; exact hx)
    rw [upd_ne nx]
    exact fb x hx
  · by_cases z : x = p
    · subst z; rw [upd_same] at e ⊢; exact e
    · rw [upd_ne z] at e ⊢; exact h.bh x o e
/-- a list opened: its items, its cell forgotten -/
theorem HA.openL (h : HA c H0 B H (⟨m, .lst ds, ov⟩ :: es) fr) (hm : m ≠ .dead) : ∃ p vs, ov = some (.ref p) ∧ SqL c.K H p vs ∧ vs.length = ds.length ∧ HA c H0 B H (ents m.inner ds vs ++ es) fr := by
  obtain ⟨L1, L2, ⟨L3, L4, rfl, h1, h3⟩, h2, nd, f0, fb⟩ := h.ex
  rcases h1 with ⟨_, h1 | h1⟩ | ⟨_, v, e, r⟩
  · exact absurd h1 hm
  · cases h1
  · unfold Rep at r
    obtain ⟨p, vs, L', rfl, r, q⟩ := r
    have hl := Reps.len r
    have hmi : m.inner ≠ .dead := by cases m <;> first | exact absurd rfl hm | exact fun z => nomatch z
    have sub : ∀ x, x ∈ L' → x ∈ L3 := fun x hx => by
      cases m with
      | dead => exact q.elim
      | deep => rw [q.1]; exact List.mem_cons_of_mem _ hx
      | shal => rw [q.1]; exact List.mem_cons_of_mem _ hx
      | frz => rw [q.1]; exact hx
      | bor => rw [q.1]; exact hx
    have subl : List.Sublist L' L3 := by
      cases m with
      | dead => exact q.elim
      | deep => rw [q.1]; exact List.sublist_cons_self _ _
      | shal => rw [q.1]; exact List.sublist_cons_self _ _
      | frz => rw [q.1]; exact List.Sublist.refl _
      | bor => rw [q.1]; exact List.Sublist.refl _
    refine ⟨p, vs, e, ?_, hl, ⟨⟨L' ++ L4, L2, EnRs.append.mpr ⟨L', L4, rfl, (ents_iff hmi hl).mpr r, h3⟩, h2, nd.sublist ((subl.append_right L4).append_right L2), fun x hx => f0 x ?_, fun x hx => fb x ?_⟩, h.bh, h.h0, h.nb⟩⟩
    · cases m with
      | dead => exact q.elim
      | deep => exact SqL.of q.2
      | shal => exact SqL.of q.2
      | frz => exact SqL.ex h.bh q.2
      | bor => exact q.2
    · rcases List.mem_append.mp hx with hx | hx
      · exact List.mem_append_left _ (sub x hx)
      · exact List.mem_append_right _ hx
    · exact ((subl.append_right L4).append_right L2).subset hx
theorem HA.openT (h : HA c H0 B H (⟨m, .tup ds, ov⟩ :: es) fr) (hm : m ≠ .dead) : ∃ p vs, ov = some (.ref p) ∧ SqT c.K H p vs ∧ vs.length = ds.length ∧ HA c H0 B H (ents m ds vs ++ es) fr := by
  obtain ⟨L1, L2, ⟨L3, L4, rfl, h1, h3⟩, h2, nd, f0, fb⟩ := h.ex
  rcases h1 with ⟨_, h1 | h1⟩ | ⟨_, v, e, r⟩
  · exact absurd h1 hm
  · cases h1
  · unfold Rep at r
    obtain ⟨p, vs, rfl, s, r⟩ := r
    have hl := Reps.len r
    exact ⟨p, vs, e, SqT.of (h.bh _ _ s), hl, ⟨⟨L3 ++ L4, L2, EnRs.append.mpr ⟨L3, L4, rfl, (ents_iff hm hl).mpr r, h3⟩, h2, nd, f0, fb⟩, h.bh, h.h0, h.nb⟩⟩
/-! the cell of an owned list apart from its items -/
def holes (n : Nat) : List D := List.replicate n .hole
theorem Reps.holes {c : Cfg} {B H : Hp} {m : M} : ∀ (vs : List V), Reps c B H (holes vs.length) m vs []
  | [] => Reps.nil_iff.mpr ⟨rfl, rfl⟩
  | v :: vs => by
    show Reps c B H (.hole :: FM.holes vs.length) m (v :: vs) []
    exact Reps.cons_iff.mpr ⟨v, vs, [], [], rfl, rfl, hole_rep.mpr rfl, Reps.holes vs⟩
theorem holes_len (n : Nat) : (holes n).length = n := List.length_replicate
theorem HA.openC (h : HA c H0 B H (⟨m, .lst ds, ov⟩ :: es) fr) (hm : m = .deep ∨ m = .shal) : ∃ p vs, ov = some (.ref p) ∧ H p = some (.lst vs) ∧ vs.length = ds.length ∧ HA c H0 B H (ents m.inner ds vs ++ ⟨m, .lst (holes vs.length), some (.ref p)⟩ :: es) fr := by
  obtain ⟨L1, L2, ⟨L3, L4, rfl, h1, h3⟩, h2, nd, f0, fb⟩ := h.ex
  have hmd : m ≠ .dead := by rcases hm with rfl | rfl <;> exact fun z => nomatch z
  rcases h1 with ⟨_, h1 | h1⟩ | ⟨_, v, e, r⟩
  · exact absurd h1 hmd
  · cases h1
  · unfold Rep at r
    obtain ⟨p, vs, L', rfl, r, q⟩ := r
    have hl := Reps.len r
    have hmi : m.inner ≠ .dead := by rcases hm with rfl | rfl <;> exact fun z => nomatch z
    have q' : L3 = p :: L' ∧ H p = some (.lst vs) := by rcases hm with rfl | rfl <;> exact q
    obtain ⟨rfl, hp⟩ := q'
    have pm : (L' ++ (p :: L4) ++ L2).Perm ((p :: L') ++ L4 ++ L2) := (List.perm_middle (a := p) (l₁ := L') (l₂ := L4)).append_right L2
    refine ⟨p, vs, e, hp, hl, ⟨⟨L' ++ (p :: L4), L2, EnRs.append.mpr ⟨L', p :: L4, rfl, (ents_iff hmi hl).mpr r, [p], L4, rfl, ?_, h3⟩, h2, pm.nodup_iff.mpr nd, fun x hx => f0 x ?_, fun x hx => fb x (pm.mem_iff.mp hx)⟩, h.bh, h.h0, h.nb⟩⟩
    · refine (EnR.some_iff hmd).mpr ?_
      unfold Rep
      refine ⟨p, vs, [], rfl, Reps.holes vs, ?_⟩
      rcases hm with rfl | rfl <;> exact ⟨rfl, hp⟩
    · exact (List.perm_middle (a := p) (l₁ := L') (l₂ := L4)).mem_iff.mp hx
theorem HA.closeC (h : HA c H0 B H (ents m.inner ds vs ++ ⟨m, .lst (holes vs.length), some (.ref p)⟩ :: es) fr) (hm : m = .deep ∨ m = .shal) (hl : vs.length = ds.length) (hp : H p = some (.lst vs)) : HA c H0 B H (⟨m, .lst ds, some (.ref p)⟩ :: es) fr := by
  obtain ⟨_, L2, h1, h2, nd, f0, fb⟩ := h.ex
  obtain ⟨L3, _, rfl, h3, L5, L6, rfl, h5, h6⟩ := EnRs.append.mp h1
  have hmd : m ≠ .dead := by rcases hm with rfl | rfl <;> exact fun z => nomatch z
  have hmi : m.inner ≠ .dead := by rcases hm with rfl | rfl <;> exact fun z => nomatch z
  have r := (ents_iff hmi hl).mp h3
  have r5 := (EnR.some_iff hmd).mp h5
  unfold Rep at r5
  obtain ⟨p', vs', L', e, r5, q⟩ := r5
  cases e
  have q' : L5 = p :: L' ∧ H p = some (.lst vs') := by rcases hm with rfl | rfl <;> exact q
  obtain ⟨rfl, hp'⟩ := q'
  rw [hp] at hp'; cases hp'
  have z : ∀ {n : Nat} {vs : List V} {L : List Addr} {m : M}, Reps c B H (holes n) m vs L → L = [] := by
    intro n
    induction n with
    | zero => intro vs L m h; exact (Reps.nil_iff.mp h).2
    | succ n ih =>
      intro vs L m h
      obtain ⟨v, vs', L1, L2, _, rfl, h1, h2⟩ := Reps.cons_iff.mp (show Reps c B H (.hole :: holes n) m vs L from h)
      rw [hole_rep.mp h1, ih h2]; rfl
  have z0 := z r5
  subst z0
  have pm : ((p :: L3) ++ L6).Perm (L3 ++ ([p] ++ L6)) := (List.perm_middle (a := p) (l₁ := L3) (l₂ := L6)).symm
  refine ⟨⟨(p :: L3) ++ L6, L2, ⟨p :: L3, L6, rfl, (EnR.some_iff hmd).mpr ?_, h6⟩, h2, (pm.append_right L2).nodup_iff.mpr nd, fun x hx => f0 x (pm.mem_iff.mp hx), fun x hx => fb x ((pm.append_right L2).mem_iff.mp hx)⟩, h.bh, h.h0, h.nb⟩
  unfold Rep
  refine ⟨p, vs, L3, rfl, r, ?_⟩
  rcases hm with rfl | rfl <;> exact ⟨rfl, hp⟩
/-- an owned cell written -/
theorem HA.writeC (h : HA c H0 B H (⟨m, .lst (holes vs.length), some (.ref p)⟩ :: es) fr) (hm : m = .deep ∨ m = .shal) (nb : ∀ e ∈ es, e.m ≠ .bor) (vs' : List V) :
    HA c H0 B (upd H p (.lst vs')) (⟨m, .lst (holes vs'.length), some (.ref p)⟩ :: es) fr := by
  obtain ⟨_, L2, ⟨L3, L4, rfl, h1, h3⟩, h2, nd, f0, fb, ow⟩ := h.own
  have hmd : m ≠ .dead := by rcases hm with rfl | rfl <;> exact fun z => nomatch z
  have r := (EnR.some_iff hmd).mp h1
  unfold Rep at r
  obtain ⟨p', vs0, L', e, r, q⟩ := r
  cases e
  have q' : L3 = p :: L' ∧ H p = some (.lst vs0) := by rcases hm with rfl | rfl <;> exact q
  obtain ⟨rfl, hp⟩ := q'
  have f0p : H0 p = none := f0 p (List.mem_append_left _ List.mem_cons_self)
  have fbp : B p = none := fb p (List.mem_append_left _ (List.mem_append_left _ List.mem_cons_self))
  rw [List.append_assoc, List.cons_append] at nd
  have npR : ∀ x ∈ L4 ++ L2, x ≠ p := fun x hx z => (List.nodup_cons.mp nd).1 (by rw [← z]; exact List.mem_append_right _ hx)
  have st : ∀ x ∈ L4 ++ L2, ∀ o, H x = some o → upd H p (.lst vs') x = some o := fun x hx o e => by rw [upd_ne (npR x hx)]; exact e
  have nd2 : (p :: (L4 ++ L2)).Nodup := List.nodup_cons.mpr ⟨fun z => npR p z rfl, (List.nodup_append.mp (List.nodup_cons.mp nd).2).2.1⟩
  refine ⟨⟨p :: L4, L2, ⟨[p], L4, rfl, (EnR.some_iff hmd).mpr ?_, h3.mono Ex.rfl' (fun x hx => st x (List.mem_append_left _ hx)) (.inr nb)⟩, h2.mono Ex.rfl' (fun x hx => st x (List.mem_append_right _ hx)) (.inr h.nb), nd2, fun x hx => ?_, fun x hx => ?_⟩, fun a o e => ?_, fun a o e => ?_, h.nb⟩
  · unfold Rep
    refine ⟨p, vs', [], rfl, Reps.holes vs', ?_⟩
    rcases hm with rfl | rfl <;> exact ⟨rfl, upd_same⟩
  · rcases List.mem_cons.mp hx with rfl | hx
    · exact f0p
    · exact f0 x (List.mem_append_right _ hx)
  · rcases List.mem_cons.mp hx with rfl | hx
    · exact fbp
    · refine fb x ?_
      rcases List.mem_append.mp hx with hx | hx
      · exact List.mem_append_left _ (List.mem_append_right _ hx)
      · exact List.mem_append_right _ hx
  · by_cases z : a = p
    · subst z; rw [fbp] at e; cases e
    · rw [upd_ne z]; exact h.bh a o e
  · by_cases z : a = p
    · subst z; rw [f0p] at e; cases e
    · rw [upd_ne z]; exact h.h0 a o e
/-- borrowed looks end -/
def En.kill (e : En) : En := ⟨(match e.m with | .bor => .dead | m => m), e.d, e.v⟩
theorem EnRs.kill {c : Cfg} {B H : Hp} : ∀ {es : List En} {L : List Addr}, EnRs c B H es L → EnRs c B H (es.map En.kill) L
  | [], _, h => h
  | ⟨m, d, ov⟩ :: es, _, h => by
    obtain ⟨L1, L2, rfl, h1, h2⟩ := h
    refine ⟨L1, L2, rfl, ?_, EnRs.kill h2⟩
    cases m with
    | bor => exact .inl ⟨EnR.un rfl h1, .inl rfl⟩
    | _ => exact h1
theorem HA.kill (h : HA c H0 B H es fr) : HA c H0 B H (es.map En.kill) fr := by
  obtain ⟨L1, L2, h1, h2, nd, f0, fb⟩ := h.ex
  exact ⟨⟨L1, L2, h1.kill, h2, nd, f0, fb⟩, h.bh, h.h0, h.nb⟩
theorem kill_nb {es : List En} : ∀ e ∈ es.map En.kill, e.m ≠ .bor := fun e he => by
  obtain ⟨x, _, rfl⟩ := List.mem_map.mp he
  obtain ⟨m, d, ov⟩ := x
  cases m <;> exact fun z => nomatch z
/-! ### what a callee sees as frozen; its result back -/
end
mutual
theorem Rep.toH {c : Cfg} {B H H' : Hp} : ∀ {d : D} {m v L}, Ex B H → Rep c B H d m v L → Rep c H H' d .frz v []
  | .hole, _, _, _, b, h => by unfold Rep; rfl
  | .non, _, _, _, b, h => by unfold Rep at h ⊢; exact ⟨rfl, h.2⟩
  | .bl _, _, _, _, b, h => by unfold Rep at h ⊢; exact ⟨rfl, h.2⟩
  | .int _, _, _, _, b, h => by unfold Rep at h ⊢; exact ⟨rfl, h.2⟩
  | .str _, _, _, _, b, h => by unfold Rep at h ⊢; exact ⟨rfl, h.2⟩
  | .tup ds, _, _, _, b, h => by
    unfold Rep at h ⊢
    obtain ⟨p, vs, e, s, r⟩ := h
    exact ⟨p, vs, e, b _ _ s, Reps.toH b r⟩
  | .lst ds, m, _, _, b, h => by
    unfold Rep at h ⊢
    obtain ⟨p, vs, L', e, r, q⟩ := h
    refine ⟨p, vs, [], e, Reps.toH b r, rfl, ?_⟩
    cases m with
    | dead => exact q.elim
    | deep => exact SqL.of q.2
    | shal => exact SqL.of q.2
    | frz => exact SqL.ex b q.2
    | bor => exact q.2
  | .dct _, m, _, _, b, h => by
    unfold Rep at h ⊢
    obtain ⟨p, e, q⟩ := h
    refine ⟨p, e, rfl, ?_⟩
    cases m with
    | dead => exact q.elim
    | deep => exact .inl q.2
    | shal => exact .inl q.2
    | frz => exact Rd.ex b q.2
    | bor => exact q.2
  | .ins _ _ ds, m, _, _, b, h => by
    unfold Rep at h ⊢
    obtain ⟨p, a, dx, fs, L', e, ec, en, r, q⟩ := h
    refine ⟨p, a, dx, fs, [], e, ec, en, Reps.toH b r, rfl, ?_⟩
    cases m with
    | dead => exact q.elim
    | deep => exact q.2
    | shal => exact q.2
    | frz => exact ⟨b _ _ q.2.1, b _ _ q.2.2⟩
    | bor => exact q.2
  | .exc _ _ ds, m, _, _, b, h => by
    unfold Rep at h ⊢
    obtain ⟨eL, p, a, dx, fs, e, ec, eb, en, r, q⟩ := h
    refine ⟨rfl, p, a, dx, fs, e, ec, b _ _ eb, en, Reps.mono (m := .deep) ⟨b, (fun _ z => nomatch z), (fun z => nomatch z)⟩ r, q.mono fun _ _ e _ => b _ _ e⟩
theorem Reps.toH {c : Cfg} {B H H' : Hp} : ∀ {ds : List D} {m vs L}, Ex B H → Reps c B H ds m vs L → Reps c H H' ds .frz vs []
  | [], _, _, _, b, h => Reps.nil_iff.mpr ⟨(Reps.nil_iff.mp h).1, rfl⟩
  | d :: ds, _, _, _, b, h => by
    obtain ⟨v, vs', L1, L2, rfl, rfl, h1, h2⟩ := Reps.cons_iff.mp h
    exact Reps.cons_iff.mpr ⟨v, vs', [], [], rfl, rfl, Rep.toH b h1, Reps.toH b h2⟩
end
mutual
/-- what is all owned asks of B its tuples alone -/
theorem Rep.reB {c : Cfg} {B B' H : Hp} : ∀ {d : D} {v L}, (∀ p o, B p = some o → isTup o = true → B' p = some o) → Rep c B H d .deep v L → Rep c B' H d .deep v L
  | .hole, _, _, b, h => by unfold Rep at h ⊢; exact h
  | .non, _, _, b, h => by unfold Rep at h ⊢; exact h
  | .bl _, _, _, b, h => by unfold Rep at h ⊢; exact h
  | .int _, _, _, b, h => by unfold Rep at h ⊢; exact h
  | .str _, _, _, b, h => by unfold Rep at h ⊢; exact h
  | .tup ds, _, _, b, h => by
    unfold Rep at h ⊢
    obtain ⟨p, vs, e, s, r⟩ := h
    exact ⟨p, vs, e, b _ _ s rfl, Reps.reB b r⟩
  | .lst ds, _, _, b, h => by
    unfold Rep at h ⊢
    obtain ⟨p, vs, L', e, r, q⟩ := h
    exact ⟨p, vs, L', e, Reps.reB b r, q⟩
  | .dct _, _, _, b, h => by
    unfold Rep at h ⊢
    exact h
  | .ins _ _ ds, _, _, b, h => by
    unfold Rep at h ⊢
    obtain ⟨p, a, dx, fs, L', e, ec, en, r, q⟩ := h
    exact ⟨p, a, dx, fs, L', e, ec, en, Reps.reB b r, q⟩
  | .exc _ _ ds, _, _, b, h => by
    unfold Rep at h ⊢
    obtain ⟨eL, p, a, dx, fs, e, ec, eb, en, r, q⟩ := h
    exact ⟨eL, p, a, dx, fs, e, ec, b _ _ eb rfl, en, Reps.reB b r, q.mono b⟩
theorem Reps.reB {c : Cfg} {B B' H : Hp} : ∀ {ds : List D} {vs L}, (∀ p o, B p = some o → isTup o = true → B' p = some o) → Reps c B H ds .deep vs L → Reps c B' H ds .deep vs L
  | [], _, _, b, h => Reps.nil_iff.mpr (Reps.nil_iff.mp h)
  | d :: ds, _, _, b, h => by
    obtain ⟨v, vs', L1, L2, rfl, rfl, h1, h2⟩ := Reps.cons_iff.mp h
    exact Reps.cons_iff.mpr ⟨v, vs', L1, L2, rfl, rfl, Rep.reB b h1, Reps.reB b h2⟩
end
/-- B, and what never changes of C -/
def mixB (B C : Hp) : Hp := fun a => match C a with
  | some o => if isTup o = true then some o else B a
  | none => B a
theorem mixB_ex {B C : Hp} (h : Ex B C) : Ex B (mixB B C) := fun a o e => by
  have q := h a o e
  unfold mixB
  rw [q]
  dsimp only
  split
  · rfl
  · exact e
theorem mixB_le {B C H : Hp} (h : Ex B H) (h' : Ex C H) : Ex (mixB B C) H := fun a o e => by
  unfold mixB at e
  cases q : C a with
  | none => rw [q] at e; exact h a o e
  | some u =>
    rw [q] at e
    dsimp only at e
    split at e
    · cases e; exact h' a _ q
    · exact h a o e
theorem mixB_tup {B C : Hp} {p : Addr} {o : HO} (e : C p = some o) (t : isTup o = true) : mixB B C p = some o := by
  unfold mixB; rw [e]; exact if_pos t
section
variable {c : Cfg} {H0 B B' H H' : Hp} {es es' fr : List En} {e : En} {m : M} {d : D} {ds : List D} {v : V} {vs : List V} {ov : Option V} {p : Addr}
theorem mixB_none {C H : Hp} (h : B p = none) (hc : Ex C H) (ho : ∃ o, H p = some o ∧ isTup o = false) : mixB B C p = none := by
  obtain ⟨o, e, t⟩ := ho
  unfold mixB
  cases q : C p with
  | none => exact h
  | some u =>
    have z := hc p u q
    rw [e] at z; cases z
    dsimp only
    rw [if_neg (by rw [t]; exact Bool.false_ne_true)]
    exact h
/-- a call's new result beside all that stood -/
theorem HA.lend (h : HA c H0 B H es fr) (r : HA c H B' H' [⟨.deep, d, some v⟩] []) (g : Ex H H') (b : Ex H B') : Ex B (mixB B B') ∧ HA c H0 (mixB B B') H' (⟨.deep, d, some v⟩ :: es) fr := by
  obtain ⟨L1, L2, h1, h2, nd, f0, fb, ow⟩ := h.own
  obtain ⟨_, L4, ⟨L3, L5, rfl, r1, r3⟩, r2, rnd, rf0, rfb, rw_⟩ := r.own
  have e4 : L4 = [] := r2
  have e5 : L5 = [] := r3
  subst e4 e5
  rw [List.append_nil] at rnd rf0 rfb rw_
  rw [List.append_nil] at rnd rfb rw_
  have bB := mixB_ex (h.bh.tr b)
  have bH : Ex (mixB B B') H' := mixB_le (h.bh.tr g) r.bh
  have dis : ∀ x ∈ L3, x ∉ L1 ++ L2 := fun x hx hy => by
    obtain ⟨o, eo, _⟩ := ow x hy
    rw [rf0 x hx] at eo; cases eo
  refine ⟨bB, ⟨⟨L3 ++ L1, L2, ⟨L3, L1, rfl, ?_, h1.mono bB (fun x _ o => g x o) (.inl g)⟩, h2.mono bB (fun x _ o => g x o) (.inl g), ?_, fun x hx => ?_, fun x hx => ?_⟩, bH, h.h0.tr g, h.nb⟩⟩
  · have r1' := (EnR.some_iff (m := .deep) (fun z => nomatch z)).mp r1
    exact (EnR.some_iff (m := .deep) (fun z => nomatch z)).mpr (Rep.reB (fun p o e t => mixB_tup e t) r1')
  · rw [List.append_assoc]
    exact List.nodup_append.mpr ⟨rnd, nd, fun x hx y hy e => dis x hx (by rw [e]; exact hy)⟩
  · rcases List.mem_append.mp hx with hx | hx
    · exact Ex.back h.h0 (rf0 x hx)
    · exact f0 x hx
  · rw [List.append_assoc] at hx
    rcases List.mem_append.mp hx with hx | hx
    · exact mixB_none (Ex.back h.bh (rf0 x hx)) r.bh (rw_ x hx)
    · refine mixB_none (fb x hx) r.bh ?_
      obtain ⟨o, e, t⟩ := ow x hx
      exact ⟨o, g x o e, t⟩
/-- after a call that ended otherwise -/
theorem HA.lend0 (h : HA c H0 B H es fr) (g : Ex H H') (b : Ex H B') (b' : Ex B' H') : Ex B (mixB B B') ∧ HA c H0 (mixB B B') H' es fr := by
  obtain ⟨L1, L2, h1, h2, nd, f0, fb, ow⟩ := h.own
  have bB := mixB_ex (h.bh.tr b)
  refine ⟨bB, ⟨⟨L1, L2, h1.mono bB (fun x _ o => g x o) (.inl g), h2.mono bB (fun x _ o => g x o) (.inl g), nd, f0, fun x hx => ?_⟩, mixB_le (h.bh.tr g) b', h.h0.tr g, h.nb⟩⟩
  refine mixB_none (fb x hx) b' ?_
  obtain ⟨o, e, t⟩ := ow x hx
  exact ⟨o, g x o e, t⟩
end
end FM

set_option Elab.async false
set_option linter.all false
set_option maxRecDepth 100000
/-! walks over d.items() where the keys are tuples; dict(pairs) with tuple keys -/
namespace FM
open PySem PySem.Spec PyProof.Rows L2
section
variable {X : Cx} {pins : List (Addr × Obj)} {σ : L2.St} {H : Hp} {s : Shared} {d : Addr} {o : Obj}
theorem frzT2 {kvs : List (List Key × V)} (I : Inv X pins σ H s) (h : H d = some (.frz o (.dT kvs))) :
    (d == sysModules) = false ∧ s.heap.get? d = some o ∧ o.ExactDict ∧ ∃ (es : Array DictEntry) (ep : Nat), o.data = .dict es ep ∧ es.size = kvs.length ∧
      ∀ (i : Nat) (k : List Key) (v : V), kvs[i]? = some (k, v) → ∃ (en : DictEntry) (q : Addr), es[i]? = some en ∧ en.key = .ref q ∧ H q = some (.tup (k.map kV)) ∧ RelV v en.val := by
  obtain ⟨hd, z, hs, xs, pr, o', es, ep, ho, hx, hdt, he, _⟩ := I.hok d _ h
  rw [hd] at ho
  cases ho
  refine ⟨hs, hd, hx, es, ep, hdt, ?_, fun i k v e => ?_⟩
  · have l1 : es.size = xs.length := size_of_entries he
    have l2 : kvs.length = xs.length := Paired.length pr
    omega
  · obtain ⟨b, hb, e1, e2, e3⟩ := paired_get pr e
    have q := entry_at he i
    rw [hb] at q
    exact ⟨_, b.2.1, q, rfl, e2, e3⟩
end
/-- the pairs of the locked dict at d, its keys tuples: each a new tuple -/
def ItiT (d : Addr) (o : Obj) (kvs : List (List Key × V)) : It :=
  ⟨fun i H => H d = some (.frz o (.dT kvs)) ∧ i < kvs.length, fun i H x H' => ∃ T k v q, kvs[i]? = some (k, v) ∧ x = .ref T ∧ H T = none ∧ H q = some (.tup (k.map kV)) ∧ H' = upd H T (.tup [.ref q, v]), fun i H => H d = some (.frz o (.dT kvs)) ∧ kvs.length ≤ i⟩
section
variable {P : Program} {w : World} {K : PySem.W.Frag} {d : Addr} {o : Obj} {es : Array DictEntry} {ep : Nat}
theorem turn_itemsT {kvs : List (List Key × V)} {elts : List Expr} {kk : Nat} {tpos : Pos} (it : Addr) (hod : o.data = .dict es ep) :
    Turn P w K (.Tuple elts kk tpos) (ItiT d o kvs) [it] it (fun i h => ∃ ok ov, IsItemIter h it d i kvs.length ep ok ov) where
  mem := by simp
  obj := fun i h st b hb => by
    have e : b = it := by simpa using hb
    subst e
    obtain ⟨ok, ov, e⟩ := st
    exact ⟨_, e, fun v z => nomatch z⟩
  keep := fun i h h' st k => let ⟨ok, ov, e⟩ := st; ⟨ok, ov, k it (by simp) _ e⟩
  item := by
    intro X hP hw hK hc i pins s σ H E I hf st hg
    subst hP hw hK
    obtain ⟨hd, hi⟩ := hg
    obtain ⟨hs, hgd, hx, es', ep', hdt, hsz, ent⟩ := frzT2 I hd
    obtain ⟨rfl, rfl⟩ := dict_ep hod hdt
    obtain ⟨⟨k, v⟩, hkv⟩ : ∃ p, kvs[i]? = some p := ⟨kvs[i], List.getElem?_eq_getElem hi⟩
    obtain ⟨en, q, hen, hkey, hq, ru⟩ := ent i k v hkv
    obtain ⟨ok, ov, he⟩ := st
    rw [← hsz] at he
    have hlt : it < s.heap.objs.size := Heap.lt_size he
    have hie : i < es'.size := by rw [hsz]; exact hi
    have een : es'[i] = en := by
      rw [Array.getElem?_eq_getElem hie] at hen
      exact Option.some.inj hen
    refine wpAny_pyNext_items_item_raw he ⟨o, hgd, hx, hdt⟩ hie fun h' ho hT hz hk => ?_
    rw [een] at ho hT
    refine ⟨_, rfl, wpAny_letOwnedTupleGo_items (s := { s with heap := h' }) ho fun h'' he' sb => ?_⟩
    have hT2 : h''.get? s.heap.objs.size = some { cls := .type "tuple", data := .seq #[en.key, en.val] } := (sb.2 _ (Nat.ne_of_gt hlt)).trans hT
    have new : ObjOk X.prog X.w (upd H s.heap.objs.size (.tup [.ref q, v])) h'' s.heap.objs.size (.tup [.ref q, v]) :=
      ⟨by show 2 ≤ sizeLine; decide, [en.key, en.val], .cons hkey (.cons ru .nil), ⟨_, hT2, rfl, _, rfl⟩⟩
    have I1 : Inv X pins σ (upd H s.heap.objs.size (.tup [.ref q, v])) { s with heap := h'' } :=
      I.turnedNew (t' := s.toks) (ch := [it]) (fun b ob hb e => (sb.2 b (by simpa using hb)).trans (hk b ob (by simpa using hb) e)) hf (Nat.le_refl _) new
    refine ⟨.ref s.heap.objs.size, _, I1, rfl, ⟨_, k, v, q, hkv, rfl, I.hok.fresh (Nat.le_refl _), hq, rfl⟩, ⟨en.key, en.val, ?_⟩, fun b hb => ?_⟩
    · rw [← hsz]; exact he'
    · have e : b = it := by simpa using hb
      rw [e, upd_ne (Nat.ne_of_lt hlt)]
      exact (hf it (by simp)).1
  done := by
    intro X hP hw hK hc i pins s σ H E I hf st hg
    subst hP hw hK
    obtain ⟨hd, hi⟩ := hg
    obtain ⟨f0, f1, f2, f3, f4, f5⟩ := hf it (by simp)
    obtain ⟨hs, hgd, hx, es', ep', hdt, hsz, ent⟩ := frzT2 I hd
    obtain ⟨rfl, rfl⟩ := dict_ep hod hdt
    obtain ⟨ok, ov, he⟩ := st
    rw [← hsz] at he
    exact wpAny_pyNext_items_end_raw (I.ok.hd hc) he ⟨o, hgd, hx, hdt⟩ (by rw [hsz]; exact hi) fun h' eb => ⟨rfl, I.turned (t' := s.toks) (fun b ob hb e => eb b ob hb e) f0 f1 f3 f4 f5⟩
  self := fun A i s Q E st h => let ⟨_, _, e⟩ := st; PySem.W.kcp_self e h
end
def iItemsT (td : TE) : TI := fun σ H R => td σ H fun x H1 => ∃ d o kvs, x = .ref d ∧ H1 d = some (.frz o (.dT kvs)) ∧ R (ItiT d o kvs) H1
section
variable {X : Cx} {tg e : Expr} {td : TE} {apos cpos : Pos}
theorem pi_itemsT {elts : List Expr} {kk : Nat} {tpos : Pos} (he : PE X e td) (hbase : attributeBase e "items" X.env (eval e X.env) = eval e X.env := by rfl) (hline : (apos.endLine == cpos.line) = true := by rfl) :
    PI X (.Tuple elts kk tpos) (.Call (.Attribute e "items" apos) [] [] cpos) (iItemsT td) := by
  refine ⟨fun pins s σ H R I h => ?_⟩
  refine wpAny_Call_method (T := "dict") (id := "dict.items") hbase rfl hline F.plainAttrs_dict F.slot_dict_items F.type_dict_items (thn (he.run pins s σ H _ I h) fun u s1 ⟨x, H1, I1, rx, d, o, kvs, ex, hd, q⟩ => ?_)
  subst ex
  obtain rfl : u = Value.ref d := rx
  obtain ⟨hs, hgd, hx, es, ep, hdt, hsz, ent⟩ := frzT2 I1 hd
  have hm : s1.heap.DictRaw d es ep := ⟨o, hgd, hx, hdt⟩
  have nd : ∀ a, Value.ref d = Value.ref a → ∃ ob, s1.heap.get? a = some ob ∧ ob.dict = none := fun a e => by cases e; exact ⟨o, hgd, hx.2.1⟩
  refine ⟨hm.typeIs, nd, ?_⟩
  have I2 : Inv X pins σ H1 { s1 with heap := s1.heap.push { cls := .type "dict_items", data := .fields #[.ref d] } } := I1.kept (t' := s1.toks) fun b ob q => Heap.get?_push_of_some _ q
  have fin : wpAny (model X.prog X.w) X.A (pyIter (.ref s1.heap.objs.size)) (PIE X pins σ (.Tuple elts kk tpos) R) X.xe { s1 with heap := s1.heap.push { cls := .type "dict_items", data := .fields #[.ref d] } } := by
    refine wpAny_pyIter_items_raw (d := d) (es := es) (ep := ep) ⟨_, Heap.get?_push_size _ rfl, rfl, rfl⟩ (hm.at fun o e => Heap.get?_push_of_some _ e) (pi_one (tk := s1.toks) I2 _ (turn_itemsT _ hdt) ⟨.none, .none, ?_⟩ q)
    rw [← hsz]
    exact Heap.get?_push_size _ rfl
  show wpAny _ _ (callWith cpos (.builtin "dict.items") [.ref d] [] []) _ X.xe s1
  exact method_meetsIn F.slot_dict_items F.entry_dict_items rfl (PySem.evalArgs_none ⟨rfl, hm.typeIs, F.args_dict_items_1 _, _, meets_dict_items_raw d hs, ⟨es, ep, hm⟩, fin⟩)
end

/-! dict(pairs), the keys tuples -/
def PairsT (K : PySem.W.Frag) (H : Hp) (ps : List Addr) (kvs : List (List Key × V)) : Prop := Paired (fun p kv => ∃ q, SqT K H p [.ref q, kv.2] ∧ H q = some (.tup (kv.1.map kV))) ps kvs
section
variable {X : Cx} {pins : List (Addr × Obj)} {σ : L2.St} {H : Hp} {s : Shared}
theorem pairsT_of (I : Inv X pins σ H s) : ∀ {ps : List Addr} {kvs : List (List Key × V)}, PairsT X.K H ps kvs →
    ∃ prs : List (List Key × Addr × Value), KT H kvs prs ∧ prs.length = ps.length ∧ ∀ (j : Nat) (q : List Key × Addr × Value), prs[j]? = some q → ∃ b, ps[j]? = some b ∧ IsTup s.heap b #[.ref q.2.1, q.2.2] ∧ H q.2.1 = some (.tup (q.1.map kV))
  | _, _, .nil => ⟨[], .nil, rfl, fun j q e => by simp at e⟩
  | _, _, .cons (a := p) (b := kv) h t => by
    obtain ⟨prs, r, hl, hp⟩ := pairsT_of I t
    obtain ⟨q, h1, h2⟩ := h
    obtain ⟨its, rv, ht, _⟩ := I.tuple h1
    obtain ⟨u, y, ei, ru, ry⟩ := vals2 rv
    subst ei
    cases ru
    refine ⟨(kv.1, q, y) :: prs, .cons ⟨rfl, h2, ry⟩ r, by rw [List.length_cons, List.length_cons, hl], fun j q' e => ?_⟩
    cases j with
    | zero =>
      have e' : (kv.1, q, y) = q' := Option.some.inj e
      subst e'
      exact ⟨p, rfl, ht, h2⟩
    | succ j =>
      obtain ⟨b, e1, e2, e3⟩ := hp j q' (by simpa using e)
      exact ⟨b, by simpa using e1, e2, e3⟩
theorem KT.merge {kvs : List (List Key × V)} {prs : List (List Key × Addr × Value)} (r : KT H kvs prs) : ∀ {acc : List (List Key × V)} {xs : List (List Key × Addr × Value)}, KT H acc xs → KT H (kvs.foldl (fun a p => putK a p.1 p.2) acc) (storedAllH xs prs) := by
  induction r with
  | nil => intro acc xs h; exact h
  | @cons p q ps qs hq t ih =>
    intro acc xs h
    obtain ⟨e, e2, e3⟩ := hq
    show KT H (ps.foldl (fun a p => putK a p.1 p.2) (putK acc p.1 p.2)) (storedAllH (storedH xs q.1 q.2.1 q.2.2) qs)
    refine ih ?_
    rw [← e]
    exact KT.put h p.1 e2 e3
theorem putK_len {κ : Type} [DecidableEq κ] (kvs : List (κ × V)) (k : κ) (v : V) : (putK kvs k v).length ≤ kvs.length + 1 := by
  unfold putK
  split
  · rw [List.length_map]; omega
  · simp
theorem foldK_len {κ : Type} [DecidableEq κ] (ps : List (κ × V)) : ∀ acc : List (κ × V), (ps.foldl (fun a p => putK a p.1 p.2) acc).length ≤ acc.length + ps.length := by
  induction ps with
  | nil => intro acc; exact Nat.le_refl _
  | cons p ps ih =>
    intro acc
    have := ih (putK acc p.1 p.2)
    have h2 := putK_len acc p.1 p.2
    rw [List.foldl_cons, List.length_cons]
    omega
/-- dict(xs) of a list of pairs (tuple, value) -/
theorem call_dictPT (hcalm : X.calm = true) (hu : X.A.units + 2 < cLine) : CallR X (.type "dict") (fun xs H Q => ∃ (a : Addr) (ps : List Addr) (kvs : List (List Key × V)), xs = [.ref a] ∧ SqL X.K H a (ps.map V.ref) ∧ PairsT X.K H ps kvs ∧
    ∀ p, H p = none → Q (.ref p) (upd H p (.dT (kvs.foldl (fun a p => putK a p.1 p.2) [])))) := by
  intro pins s σ H xs us Q I r q
  obtain ⟨a, ps, kvs, ex, hq, hp, q⟩ := q
  subst ex
  obtain ⟨u, eu, rx⟩ := vals1 r
  subst eu
  cases rx
  obtain ⟨its, rv, pl, hz⟩ := I.list hq
  have ei := refs_at rv
  subst ei
  rw [List.length_map] at hz
  obtain ⟨prs, rel, hl, hpr⟩ := pairsT_of I hp
  obtain ⟨o, n, ho, hc, hd, hdat⟩ := pl
  have key : ∀ x ∈ prs, (tupleKind (mixKind X.prog X.w)).is s.heap x.1 x.2.1 := by
    intro x hx
    obtain ⟨j, hj, ej⟩ := List.getElem_of_mem hx
    obtain ⟨b, _, _, e3⟩ := hpr j x (by rw [List.getElem?_eq_getElem hj, ej])
    exact key_of I.hok e3
  have hsz : ((ps.map Value.ref).toArray).size = (prs.map fun x => (Value.ref x.2.1, x.2.2)).length := by simp [hl]
  refine call_dict_pairsH (knd := tupleKind (mixKind X.prog X.w)) (ps := prs) (PairArg.list (prog := X.prog) (w := X.w) a (ps.map Value.ref).toArray (fun j => ps.getD j 0) (prs.map fun x => (.ref x.2.1, x.2.2))) (I.ok.hd hcalm) (by exact hu)
    ⟨⟨o, n, ho, hc, hd, hdat⟩, hsz, fun j k v e => ?_⟩ ⟨by simp, fun i k v e => ?_⟩ (fun h' hk x hx => ?_) (by simp; omega) fun h' tk hd' hk => ?_
  · rw [List.getElem?_map] at e
    obtain ⟨x, ex, e⟩ := Option.map_eq_some_iff.mp e
    cases e
    obtain ⟨b, e1, e2, e3⟩ := hpr j x ex
    obtain ⟨ob, h1, h2, h3⟩ := e2
    refine ⟨by simp [List.getD, e1], .inl ?_⟩
    have : ps.getD j 0 = b := by simp [List.getD, e1]
    show s.heap.IsTuple (ps.getD j 0) _
    rw [this]
    obtain ⟨n', h3⟩ := h3
    exact ⟨ob, h1, h2, n', h3⟩
  · have e : (prs.map fun x => (Value.ref x.2.1, x.2.2))[i]? = some (k, v) := e
    rw [List.getElem?_map] at e
    obtain ⟨x, ex, e⟩ := Option.map_eq_some_iff.mp e
    cases e
    exact ⟨x.1, x.2.1, ex, rfl⟩
  · have h0 := key x hx
    exact tupleKind_stays.stays (fun b ob vs m e _ => hk b ob (Nat.ne_of_lt (Heap.lt_size e)) (fun z => nomatch z) e) h0
  · have hm : (s.heap.objs.size == sysModules) = false := beq_eq_false_iff_ne.mpr (Nat.ne_of_gt I.big)
    have k' : ∀ b ob, s.heap.get? b = some ob → h'.get? b = some ob := fun b ob e => hk b ob (fun z => nomatch z) e
    have hn := I.hok.fresh (Nat.le_refl s.heap.objs.size)
    have hlen : (kvs.foldl (fun a p => putK a p.1 p.2) []).length ≤ sizeLine := by
      have h1 := foldK_len kvs []
      have h2 : kvs.length = prs.length := Paired.length rel
      simp only [List.length_nil] at h1
      omega
    have rel2 : KT (upd H s.heap.objs.size (.dT (kvs.foldl (fun a p => putK a p.1 p.2) []))) kvs prs := KT.keeps rel fun b ys e => by
      rw [upd_ne (ne_of_none e hn)]; exact e
    obtain ⟨o2, es2, ep2, g1, g2, g3, g4, g5, g6⟩ := hd'
    exact ⟨.ref s.heap.objs.size, upd H s.heap.objs.size (.dT (kvs.foldl (fun a p => putK a p.1 p.2) [])), I.laid (t' := tk) k' (Nat.le_refl _) (show ObjOk X.prog X.w _ _ _ (.dT _) from ⟨hlen, hm, storedAllH [] prs, KT.merge rel2 .nil, o2, es2, ep2, g1, g2, g3, g4, g6⟩), rfl, q _ hn⟩
end
end FM

set_option Elab.async false
set_option linter.all false
set_option maxRecDepth 100000
/-! sorted(..) of alike data, of a list or a tuple, as a rule of the hand layer -/
namespace FM
open PySem PySem.Spec PyProof.Rows L2
theorem each_reads {X : Cx} {pins : List (Addr × Obj)} {σ : L2.St} {H : Hp} {s : Shared} (I : Inv X pins σ H s) : ∀ {vs : List V} {ds : List PyData} {us : List Value}, DpAll X.K H vs ds → Vals vs us → PySem.W.EachIs (fun v d => ∃ as, Reads s.heap v d as) us ds
  | [], _, _, h, r => by
    cases h
    cases r
    exact .nil
  | _ :: _, _, _, h, r => by
    cases h with
    | cons h1 h2 =>
      cases r with
      | cons r1 r2 => exact .cons (Dp.reads I _ _ _ h1 r1) (each_reads I h2 r2)
/-- each value with its thing -/
theorem each_pairs {H : Hp} {K : PySem.W.Frag} : ∀ {vs : List V} {ds : List PyData} {us : List Value}, DpAll K H vs ds → Vals vs us → PySem.W.EachIs (fun u p => RelV (Prod.fst p) u) us (vs.zip ds) ∧ (vs.zip ds).map (·.2) = ds
  | [], _, _, h, r => by
    cases h
    cases r
    exact ⟨.nil, rfl⟩
  | v :: vs, _, _, h, r => by
    cases h with
    | cons h1 h2 =>
      cases r with
      | cons r1 r2 =>
        obtain ⟨a1, a2⟩ := each_pairs h2 r2
        exact ⟨.cons r1 a1, congrArg (List.cons _) a2⟩
theorem vals_each {α : Type} {f : α → V} : ∀ {us : List Value} {ps : List α}, PySem.W.EachIs (fun u p => RelV (f p) u) us ps → Vals (ps.map f) us
  | [], _, h => by
    cases h
    exact .nil
  | _ :: _, _, h => by
    cases h with
    | cons h1 h2 => exact .cons h1 (vals_each h2)
/-- things in Python's order of their data -/
def ordL {α : Type} (f : α → PyData) (l : List α) : List α := l.mergeSort (PySem.W.dataLe false f)
def SrtOk (ds : List PyData) : Prop := PySem.W.AllAlike ds ∧ PySem.W.Sortable ds ∧ ∀ d ∈ ds, d.depth ≤ 32
def rSrtD (K : PySem.W.Frag) : List V → Hp → VK → Prop := fun vs H Q => ∃ (a : Addr) (xs : List V) (ds : List PyData), vs = [.ref a] ∧ (SqL K H a xs ∨ SqT K H a xs) ∧ DpAll K H xs ds ∧ SrtOk ds ∧
  ∀ p, H p = none → Q (.ref p) (upd H p (.lst ((ordL (·.2) (xs.zip ds)).map (·.1))))
theorem srt_out {X : Cx} {pins : List (Addr × Obj)} {σ : L2.St} {H : Hp} {s : Shared} {h' : Heap} (I : Inv X pins σ H s) {xs : List V} {ds : List PyData} {its : List Value} (hd : DpAll X.K H xs ds) (r : Vals xs its) (ok : SrtOk ds) (A : Around) (hu : A.units + 32 < cLine)
    (kp : ∀ b o, s.heap.get? b = some o → h'.get? b = some o) :
    PySem.W.SortsAt X.prog X.w A { s with heap := h' } (PySem.W.dataKind h' ds) its ∧ Vals ((ordL (·.2) (xs.zip ds)).map (·.1)) (PySem.W.sortVals (PySem.W.dataKind h' ds) false its its) := by
  obtain ⟨o1, o2, o3⟩ := ok
  have I2 : Inv X pins σ H { s with heap := h', toks := s.toks } := I.kept kp
  have e := each_reads I2 hd r
  obtain ⟨p1, p2⟩ := each_pairs hd r
  refine ⟨PySem.W.SortsAt.data e o1 o2 fun d hm => Nat.lt_of_le_of_lt (Nat.add_le_add_left (o3 d hm) _) hu, ?_⟩
  refine vals_each (f := Prod.fst) ?_
  unfold ordL
  refine PySem.W.keyedOut_each (R := fun u p => RelV (Prod.fst p) u) (·.2) ⟨h', its, ?_, ?_, ?_⟩ p1
  · rw [p2]; exact o1
  · rw [p2]
  · rw [p2]; exact e
theorem args_l (a : Value) : argsOk "list.sort" ⟨[a], []⟩ := args_list_sort a
theorem cr_sortD {X : Cx} (hu : X.A.units + 64 < cLine) : CallR X (.builtin "sorted") (rSrtD X.K) := by
  intro pins s σ H vs us Q I r h
  obtain ⟨a, xs, ds, rfl, hq, hd, ok, q⟩ := h
  rw [Vals.ref1 r]
  have hu2 : X.A.in1.in1.units + 32 < cLine := by
    show X.A.units + 1 + 1 + 32 < cLine
    omega
  rcases hq with hq | hq
  · obtain ⟨its, rv, pl, hz⟩ := I.list hq
    have hl := rv.length
    obtain ⟨S, rout⟩ := srt_out (h' := PySem.W.sortingHeap (PySem.W.copyHeap s.heap its) (s.heap.objs.size + 1) its) I hd rv ok X.A.in1.in1 hu2 fun b o e => PySem.W.sorting_copy_old e
    refine PySem.W.sorted_vals pl.isList S (by rw [← hl]; exact hz) ?_
    obtain ⟨ep, he⟩ := sortedAll_at s.heap its (PySem.W.sortVals (PySem.W.dataKind (PySem.W.sortingHeap (PySem.W.copyHeap s.heap its) (s.heap.objs.size + 1) its) ds) false its its).toArray
    have hlen : ((ordL (·.2) (xs.zip ds)).map (·.1)).length ≤ sizeLine := by
      rw [rout.length, PySem.W.sortVals_length false rfl, ← hl]; exact hz
    exact ⟨.ref _, _, I.laid (t' := s.toks) (fun _ _ => sortedAll_old) (Nat.le_succ _) (show ObjOk X.prog X.w _ _ _ (.lst ((ordL (·.2) (xs.zip ds)).map (·.1))) from ⟨hlen, _, ep, rout, he⟩), rfl, q _ (I.hok.fresh (Nat.le_succ _))⟩
  · obtain ⟨its, rv, pl, hz⟩ := I.tuple hq
    have hl := rv.length
    obtain ⟨o, ho, hc, n, hdt⟩ := pl
    refine Calls.call_function_entry kind_sorted plain_sorted entry_sorted (args_sorted1 _) ?_
    unfold Builtin.«sorted»
    refine wpAny_bind (m := checkCount "sorted" 1 1 _) (wpAny_pure ?_)
    refine wpAny_bind (wpAny_collect_seq a (.inr rfl) ho hc hdt (fun h' kp => ?_) (by rw [List.size_toArray, ← hl]; exact hz))
    refine wpAny_bind (wpAny_newList ?_ (by rw [← hl]; exact hz))
    have k1 : ∀ b o, s.heap.get? b = some o → (h'.push (seqObj "list" its.toArray 0)).get? b = some o := fun b o e => Heap.get?_push_of_some _ (kp b o e)
    have hoL : (h'.push (seqObj "list" its.toArray 0)).get? h'.objs.size = some (seqObj "list" its.toArray 0) := Heap.get?_push_size _ rfl
    have below : ∀ b o, s.heap.get? b = some o → b ≠ h'.objs.size := fun b o e => Nat.ne_of_lt (Heap.lt_size (kp b o e))
    obtain ⟨S, rout⟩ := srt_out (h' := PySem.W.sortingHeap (h'.push (seqObj "list" its.toArray 0)) h'.objs.size its) I hd rv ok X.A.in1.in1 hu2 fun b o e => PySem.W.sortingHeap_old (below b o e) (k1 b o e)
    refine wpAny_bind (wpAny_holding (wpAny_call_entry slot_list_sort ⟨_, hoL, rfl⟩ entry_list_sort
      (PySem.W.list_sort_vals (s := { s with heap := h'.push (seqObj "list" its.toArray 0) }) hoL S (by rw [← hl]; exact hz) ⟨.none, rfl, ?_⟩) (args_l _)))
    refine wpAny_pure ⟨_, rfl, ?_⟩
    obtain ⟨ep, he⟩ := sortedHeap_at (out := (PySem.W.sortVals (PySem.W.dataKind (PySem.W.sortingHeap (h'.push (seqObj "list" its.toArray 0)) h'.objs.size its) ds) false its its).toArray) hoL
    have hlen : ((ordL (·.2) (xs.zip ds)).map (·.1)).length ≤ sizeLine := by
      rw [rout.length, PySem.W.sortVals_length false rfl, ← hl]; exact hz
    have I1 : Inv X pins σ H { s with heap := h', toks := s.toks } := I.kept kp
    have k2 : ∀ b o, h'.get? b = some o → (h'.push (seqObj "list" its.toArray 0)).get? b = some o := fun b o e => Heap.get?_push_of_some _ e
    exact ⟨.ref _, _, I1.laid (a := h'.objs.size) (t' := s.toks) (fun b o e => (sortedHeap_old (Nat.ne_of_lt (Heap.lt_size e)) (Heap.lt_size (k2 b o e))).trans (k2 b o e)) (Nat.le_refl _) (show ObjOk X.prog X.w _ _ _ (.lst ((ordL (·.2) (xs.zip ds)).map (·.1))) from ⟨hlen, _, ep, rout, he⟩), rfl, q _ (I1.hok.fresh (Nat.le_refl _))⟩
end FM

set_option Elab.async false
set_option linter.all false
set_option maxRecDepth 100000
/-! enumerate(..) of a tuple, as a rule of the hand layer -/
namespace FM
open PySem PySem.Spec PyProof.Rows L2
set_option maxHeartbeats 1000000 in
/-- enumerate.__new__ of what begins -/
theorem enum_new1 {v : Value} {o : Obj} {S : Heap → Prop} (B : Begins v o S) : Meets (Builtin.«enumerate.__new__» ⟨[.type "enumerate", v], []⟩) (fun _ R s => S s.heap ∧
    R (.ok (.ret (.ref (s.heap.push o).objs.size))) { s with heap := (s.heap.push o).push { cls := .type "enumerate", data := .fields #[.none, .bool false, .ref s.heap.objs.size, rawInt 0, .none, .none] } }) := by
  refine .of_wp fun prog w A R s h => ?_
  obtain ⟨hp, g, dd, tk, os⟩ := s
  have sub := sub_enumerate
  have begun : ∀ {A' : Around} {E : Value → Shared → Prop} {Q : Value → Shared → Prop}, Q (.ref hp.objs.size) ⟨hp.push o, g, dd, tk, os⟩ → wpAny (model prog w) A' (pyIter v) Q E ⟨hp, g, dd, tk, os⟩ :=
    fun q => B.iter prog w _ _ ⟨hp, g, dd, tk, os⟩ _ h.1 q
  wp_walk using begun
  refine wpAny_stack_any fun st => wpAny_pure ?_
  split
  · rename_i cl _ _ _ _ _
    cases (cl == Value.type "enumerate") <;> (wp_walk using begun; exact ⟨_, rfl, h.2⟩)
  · wp_walk using begun
    exact ⟨_, rfl, h.2⟩
theorem call_enum1 {prog : Program} {w : World} {A : Around} {E : Value → Shared → Prop} {s : Shared} {v : Value} {o : Obj} {S : Heap → Prop} {Q : Value → Shared → Prop} (B : Begins v o S) (hs : S s.heap)
    (k : ∀ h', IsEnum h' (s.heap.objs.size + 1) s.heap.objs.size 0 .none → h'.get? s.heap.objs.size = some o → (∀ b o', s.heap.get? b = some o' → h'.get? b = some o') → Q (.ref (s.heap.objs.size + 1)) { s with heap := h' }) :
    wpAny (model prog w) A (call (.type "enumerate") [v]) Q E s := by
  refine callType_new F.called_enumerate (by decide) (F.typeCall_enumerate_1 _) (F.newCall_enumerate_1 _) (fun obj => F.args_object_init_2 obj _) F.entry_enumerate_new (enum_new1 B) ⟨hs, ?_⟩
  have hz : (s.heap.push o).objs.size = s.heap.objs.size + 1 := Heap.size_push ..
  have he : IsEnum ((s.heap.push o).push { cls := .type "enumerate", data := .fields #[.none, .bool false, .ref s.heap.objs.size, rawInt 0, .none, .none] }) (s.heap.objs.size + 1) s.heap.objs.size 0 .none := by
    rw [← hz]
    exact Heap.get?_push_size _ rfl
  show _ ∧ _
  rw [hz]
  exact ⟨⟨_, he, rfl⟩, k _ he (Heap.get?_push_of_some _ (Heap.get?_push_size _ B.free)) fun b o' x => Heap.get?_push_of_some _ (Heap.get?_push_of_some _ x)⟩
/-- the tuple at a as it stands at each turn, each item in a new pair -/
def Itet (K : PySem.W.Frag) (a : Addr) : It :=
  ⟨fun i H => ∃ (xs : List V) (x : V), SqT K H a xs ∧ xs[i]? = some x, fun i H v H' => ∃ T x, v = .ref T ∧ H T = none ∧ H' = upd H T (.tup [.int (i : Nat), x]) ∧ ∀ xs, SqT K H a xs → xs[i]? = some x, fun i H => ∃ xs : List V, SqT K H a xs ∧ xs.length ≤ i⟩
theorem apart_cls {h : Heap} {a b : Addr} {o o' : Obj} (ha : h.get? a = some o) (hb : h.get? b = some o') (hc : o.cls ≠ o'.cls) : a ≠ b := by
  rintro rfl
  rw [ha] at hb
  exact hc (by rw [Option.some.inj hb])
theorem turn_enumT {P : Program} {w : World} {K : PySem.W.Frag} {elts : List Expr} {kk : Nat} {tpos : Pos} (a e it : Addr) :
    Turn P w K (.Tuple elts kk tpos) (Itet K a) [e, it] e (fun i h => (∃ old, IsEnum h e it ((i : Nat) : Int) old) ∧ h.IsTupleIter it a i ∧ e ≠ it) where
  mem := by simp
  obj := fun i h st b hb => by
    obtain ⟨⟨old, he⟩, ⟨o, ho, hc, hd⟩, _⟩ := st
    rcases (by simpa using hb : b = e ∨ b = it) with rfl | rfl
    · exact ⟨_, he, fun v q => nomatch q⟩
    · exact ⟨o, ho, fun v q => by rw [hd] at q; cases q⟩
  keep := fun i h h' st k => by
    obtain ⟨⟨old, he⟩, hi, hne⟩ := st
    exact ⟨⟨old, k e (by simp) _ he⟩, hi.at fun o q => k it (by simp) o q, hne⟩
  item := by
    intro X hP hw hK hc i pins s σ H E I hf st hg
    subst hP hw hK
    obtain ⟨⟨old, he⟩, hit, hne⟩ := st
    obtain ⟨xs, x, hq, hx⟩ := hg
    obtain ⟨its, rv, p, hz⟩ := I.tuple hq
    obtain ⟨u, hu, ru⟩ := rv.get hx
    have p' : s.heap.IsTuple a its.toArray := p
    have hel : e < s.heap.objs.size := Heap.lt_size he
    obtain ⟨oi, hoi, hci, hdi⟩ := id hit
    obtain ⟨oa, hoa, hca, hda⟩ := id p'
    have hil : it < s.heap.objs.size := Heap.lt_size hoi
    have nai : a ≠ it := apart_cls hoa hoi (by rw [hca, hci]; decide)
    have nea : e ≠ a := apart_cls he hoa (by rw [hca]; show Value.type "enumerate" ≠ Value.type "tuple"; decide)
    refine wpAny_pyNext_enum_itemD (Draws.tuple (A := X.A.in1) (I.ok.hd hc) it a nai its.toArray) he ⟨hit, p'⟩ (by have z := (List.getElem?_eq_some_iff.mp hu).1; simpa using z) hne (by simp [hne, nea]) fun y h' tk hy ho hst hT hsz hk => ?_
    obtain rfl : u = y := by
      have hy' : its[i]? = some y := by simpa using hy
      exact Option.some.inj (hu.symm.trans hy')
    refine ⟨_, rfl, wpAny_letOwnedTupleGo_enum (s := { s with heap := h', toks := tk + 1 }) ho fun h'' he' sb => ?_⟩
    have hT2 : h''.get? s.heap.objs.size = some { cls := .type "tuple", data := .seq #[.int i tk, u] } := (sb.2 _ (Nat.ne_of_gt hel)).trans hT
    have new : ObjOk X.prog X.w (upd H s.heap.objs.size (.tup [.int (i : Nat), x])) h'' s.heap.objs.size (.tup [.int (i : Nat), x]) :=
      ⟨by show 2 ≤ sizeLine; decide, [.int i tk, u], .cons ⟨_, rfl⟩ (.cons ru .nil), ⟨_, hT2, rfl, _, rfl⟩⟩
    have I1 : Inv X pins σ (upd H s.heap.objs.size (.tup [.int (i : Nat), x])) { s with heap := h'', toks := tk + 1 } :=
      I.turnedNew (ch := [e, it]) (fun b ob hb q => (sb.2 b (fun z => hb (by simp [z]))).trans (hk b ob (fun z => hb (by simp [z])) (fun z => hb (by simp [z])) q)) hf (Nat.le_refl _) new
    refine ⟨.ref s.heap.objs.size, _, I1, rfl, ⟨_, x, rfl, I.hok.fresh (Nat.le_refl _), rfl, fun ys hy => by rw [I.tuple_inj hy hq]; exact hx⟩, ⟨⟨u, ?_⟩, hst.1.at fun o q => (sb.2 it (Ne.symm hne)).trans q, hne⟩, fun b hb => ?_⟩
    · have e1 : ((i + 1 : Nat) : Int) = (i : Int) + 1 := by omega
      rw [e1]
      exact he'
    · have hb' : b < s.heap.objs.size := by
        rcases (by simpa using hb : b = e ∨ b = it) with rfl | rfl
        · exact hel
        · exact hil
      rw [upd_ne (Nat.ne_of_lt hb')]
      exact (hf b hb).1
  done := by
    intro X hP hw hK hc i pins s σ H E I hf st hg
    subst hP hw hK
    obtain ⟨⟨old, he⟩, hit, hne⟩ := st
    obtain ⟨xs, hq, hx⟩ := hg
    obtain ⟨its, rv, p, hz⟩ := I.tuple hq
    obtain ⟨f0, f1, f2, f3, f4, f5⟩ := hf it (by simp)
    have p' : s.heap.IsTuple a its.toArray := p
    obtain ⟨oi, hoi, hci, hdi⟩ := id hit
    obtain ⟨oa, hoa, hca, hda⟩ := id p'
    have nai : a ≠ it := apart_cls hoa hoi (by rw [hca, hci]; decide)
    have hl := rv.length
    have D : Draws X.prog X.w X.A.in1 it [it, a] i (fun _ _ => True) (fun j h => j = i ∧ h.IsTupleIter it a i ∧ h.IsTuple a its.toArray) :=
      { live := fun _ _ st => let ⟨_, ⟨o, ho, _⟩, _⟩ := st; ⟨o, ho⟩
        frame := fun _ _ _ st hk => ⟨st.1, st.2.1.at fun o z => hk it (by simp) o z, st.2.2.at fun o z => hk a (by simp) o z⟩
        item := fun j s Q E hj st _ => absurd st.1 (Nat.ne_of_lt hj)
        done := fun s Q E st hE => wpAny_nextOf_tuple_end (I.ok.hd hc) st.2.1 st.2.2 (by simp; omega) hE }
    exact wpAny_pyNext_enum_endD D he ⟨rfl, hit, p'⟩ fun h' eb => ⟨rfl, I.turned (t' := s.toks) (fun b o hb q => eb b o hb q) f0 f1 f3 f4 f5⟩
  self := fun A i s Q E st h => let ⟨⟨_, he⟩, _⟩ := st; wpAny_pyIter_enum he h
def iEnumT (K : PySem.W.Frag) (ta : TA) : TI := fun σ H R => ta σ H fun vs H1 => ∃ a xs, vs = [.ref a] ∧ SqT K H1 a xs ∧ R (Itet K a) H1
theorem pi_enumT {X : Cx} {e : Expr} {ta : TA} {p pos tpos : Pos} {elts : List Expr} {kk : Nat} (hg : Gl X "enumerate") (hm : X.mg "enumerate" = none) (ha : PA X [e] ta) (hs : starEach [e] X.env = [(false, eval e X.env)] := by rfl) :
    PI X (.Tuple elts kk tpos) (.Call (.Name "enumerate" p) [e] [] pos) (iEnumT X.K ta) := by
  refine ⟨fun pins s σ H R I h => Call_ (ld_blt I hg hm boot_enumerate (PyProof.Rows.callWith_type1 (thn (ha.run pos pins s σ H _ I h) fun us s1 ⟨vs, H1, I1, r1, q1⟩ => ?_) hs rfl))⟩
  obtain ⟨a, xs, rfl, hq, q⟩ := q1
  cases r1 with
  | cons r rr =>
    cases rr
    cases r
    obtain ⟨its, rv, p', hz⟩ := I1.tuple hq
    refine call_enum1 (begins_tuple a its.toArray) p' fun h' he hit hk => wpAny_pyIter_enum he ?_
    have I2 : Inv X pins σ H1 { s1 with heap := h' } := I1.kept (t' := s1.toks) hk
    refine ⟨s1.heap.objs.size + 1, [s1.heap.objs.size + 1, s1.heap.objs.size], _, _, H1, rfl, I2, turn_enumT a (s1.heap.objs.size + 1) s1.heap.objs.size, ⟨⟨.none, he⟩, ⟨_, hit, rfl, rfl⟩, Nat.succ_ne_self _⟩, fun b hb => ?_, q⟩
    have hle : s1.heap.objs.size ≤ b := by
      rcases (by simpa using hb : b = s1.heap.objs.size + 1 ∨ b = s1.heap.objs.size) with rfl | rfl
      · exact Nat.le_add_right _ _
      · exact Nat.le_refl _
    exact I1.fpOk hle (I1.hok.fresh hle)
end FM

set_option Elab.async false
set_option linter.all false
set_option maxRecDepth 100000
/-! a caught error that is kept behind its suite: it is tracked from the catch on -/
namespace FM
open PySem PySem.Spec PyProof.Rows L2
section
variable {X : Cx} {pins : List (Addr × Obj)} {σ : L2.St} {H : Hp} {s : Shared}
/-- an object that stands untracked, younger than the entry, is tracked from now on -/
theorem track {a : Addr} {o : HO} {oe : Obj} (I : Inv X pins σ H s) (ha : s.heap.get? a = some oe) (hn : H a = none) (young : X.s_0.heap.get? a = none) (nL : a ≠ X.env.locals) (np : ∀ p ∈ X.pn ++ pins, p.1 ≠ a)
    (nc : ∀ v, oe.data ≠ .cell v) (new : ObjOk X.prog X.w (upd H a o) s.heap a o) : Inv X pins σ (upd H a o) s := by
  have ne : ∀ b u, X.s_0.heap.get? b = some u → b ≠ a := by
    rintro b u e rfl
    rw [young] at e; cases e
  have old : ∀ b u, H b = some u → upd H a o b = some u := fun b u e => by rw [upd_ne (ne_of_none e hn)]; exact e
  have B := I.base
  refine { I with
    base := { B with
      free := fun b u e n x => by rw [upd_ne (ne b u e)]; exact B.free b u e n x
      tups := fun b xs e => old _ _ (B.tups b xs e)
      frzs := fun b u v e => old _ _ (B.frzs b u v e)
      tbls := fun b ps e => (B.tbls b ps e).imp fun _ q => old _ _ q }
    free := by rw [upd_ne (Ne.symm nL)]; exact I.free
    freeC := fun y k e => ?_
    pin := fun p hp => ?_
    hok := I.hok.laidN (fun _ _ q => q) hn new }
  · have nk : k ≠ a := by
      rintro rfl
      obtain ⟨v, ok, e1, e2⟩ := I.cell y k e
      rw [ha] at e1
      cases e1
      exact nc v e2
    rw [upd_ne nk]
    exact I.freeC y k e
  · obtain ⟨q1, q2, q3, q4, q5⟩ := I.pin p hp
    exact ⟨q1, by rw [upd_ne (np p hp)]; exact q2, q3, q4, q5⟩
theorem toSuite (I : Inv X pins σ H s) (a : Addr) : Inv (X.suite a (X.pn ++ pins)) [] σ H s :=
  { I with ok := I.ok.suite a _, pin := fun p hp => I.pin p (by rw [List.append_nil] at hp; exact hp) }
theorem fromSuite {a : Addr} (I : Inv (X.suite a (X.pn ++ pins)) [] σ H s) (ok : X.Ok) : Inv X pins σ H s :=
  { I with ok := ok, pin := fun p hp => I.pin p (List.mem_append_left _ hp) }
/-- what the clause wishes, where it takes all that comes: the suite runs with the error tracked -/
def wK (K : PySem.W.Frag) (c : Value) (i : Nat) (ts : TS) (D : Ends) : WX := fun cls d σ H => ∃ C, cls = .ref C ∧ PySem.W.exmOne K cls c = some true ∧
  ∀ a, H a = none → ts ⟨fun σ' H' => D.nx (σ'.set i none) H', D.rt, fun σ' H' => D.bk (σ'.set i none) H', fun σ' H' => D.ct (σ'.set i none) H'⟩ (σ.set i (some (.ref a))) (upd H a (excO C a d))
theorem ps_try_keep {x n : Str} {c : Value} {i : Nat} {body suite : List Stmt} {b₀ : Stmt} {np pos pos' : Pos} {tb : WX → TS} {ts : TS} (hs : X.stack = X.env :: X.outer) (hf : X.env.frame = some X.env.locals) (hex : X.ex = [])
    (hN : X.N.Nodup) (hi : X.N[i]? = some n) (hln : X.env.kindOf n = some .local) (hc : Names X x c)
    (hb : ∀ (W : WX) (pn : List (Addr × Obj)) (xe : Value → Shared → Prop), Takes (X.tr pn xe) W → PassesOwn (model X.prog X.w) X.A X.env xe → PSs (X.tr pn xe) body (tb W))
    (hsu : ∀ (a : Addr) (pn : List (Addr × Obj)), PSs (X.suite a pn) (b₀ :: suite) ts) :
    PS X (.Try body [.ExceptHandler (some (.Name x np)) (some n) (b₀ :: suite) pos'] [] [] pos) (fun D σ H => tb (wK X.K c i ts D) D σ H) := by
  constructor
  intro pins s σ H D I hw
  have ok := I.ok
  apply wpAny_Try_except
  have body := (hb (wK X.K c i ts D) (X.pn ++ pins) (fun e s₁ => wpAny (model X.prog X.w) X.A (noteFrame e X.env) (fun _ s₂ => wpAny (model X.prog X.w) X.A (setFlight e none)
    (fun _ s₃ => wpAny (model X.prog X.w) X.A (handleBy e X.env [.ExceptHandler (some (.Name x np)) (some n) (b₀ :: suite) pos']) (SP X pins D) X.xe s₃) X.xe s₂) X.xe s₁) ?_ PassesOwn.looking).run [] s σ H D (I.toTry _) hw
  · refine wpAny_mono body (fun f s1 hsp => ?_) fun _ _ he => he
    cases f
    case next =>
      obtain ⟨σ1, H1, I1, q⟩ := hsp
      exact wpAny_execs_nil ⟨σ1, H1, I1.ofTry ok, q⟩
    case ret u =>
      obtain ⟨v, σ1, H1, I1, r, q⟩ := hsp
      exact ⟨v, σ1, H1, I1.ofTry ok, r, q⟩
    all_goals
      obtain ⟨σ1, H1, I1, q⟩ := hsp
      exact ⟨σ1, H1, I1.ofTry ok, q⟩
  rintro _ s' ⟨a, G, sI, pins', σ', H', _, d, rfl, JT, nb, up, sky, na, os, ag, C, rfl, hm, hk⟩
  have J : Inv X pins σ' H' sI := JT.ofTry ok
  have sky : Sky G (X.env :: X.outer) a (Zc (.ref C) d) X.env.locals s'.heap := hs ▸ sky
  show wpAny (model X.prog X.w) X.A (noteFrame (.ref a) X.env) _ _ _
  refine sky.land Zc.steady (by rw [ok.frames, hs]) hf fun g1 fl1 up1 => ?_
  obtain ⟨o1, v1, ho1, hz1, hd1⟩ := fl1.there
  -- the error is no frame's, and not there where nothing of it was known
  have nofr : a ∉ frs (X.env :: X.outer) := fun hm => by
    obtain ⟨_, o', e', q⟩ := fl1.2.2.1.mem hm
    rw [ho1] at e'
    cases e'
    exact q _ hd1
  have out : sI.heap.get? a = none := by
    cases e : sI.heap.get? a with
    | none => rfl
    | some o =>
      have z := nb a o e (by show a ∉ frs X.stack; rw [hs]; exact nofr)
      rw [fl1.2.1] at z
      cases z
  have young : X.s_0.heap.get? a = none := by
    cases e : X.s_0.heap.get? a with
    | none => rfl
    | some o =>
      obtain ⟨o', e'⟩ := J.base.there a o e (by rw [hex]; exact fun z => nomatch z)
      rw [out] at e'
      cases e'
  have nL : a ≠ X.env.locals := by
    obtain ⟨m, ⟨oL, es, ep, hoL, _⟩, _⟩ := J.loc
    rintro rfl
    rw [out] at hoL
    cases hoL
  have npin : ∀ p ∈ X.pn ++ pins, p.1 ≠ a := fun p hp z => by
    have q := (J.pin p hp).1
    rw [z, out] at q
    cases q
  have J1 : Inv X pins σ' H' { s' with heap := g1 } := J.landed nb fl1.1 (up.trans up1) os ag
  have S1 := toSuite J1 a
  refine wpAny_handleBy_cons (codeAny_handlers_test ?_) (fun q => nomatch q)
  have ans := PySem.W.exm_one (M := model X.prog X.w) J1.kIn (fun A Q E s k q => wpAny_typeOf_ref (k _ _ ho1) (by rw [hz1.1]; exact q)) hm
  have ask : ∀ {Q : Value → Shared → Prop} {E : Value → Shared → Prop}, Q c { s' with heap := g1 } → wpAny (model X.prog X.w) (X.A.mark (some (.ref a))) (eval (.Name x np) X.env) Q E { s' with heap := g1 } := fun {Q E} q => by
    obtain ⟨g, db, h | ⟨h1, h2, h3⟩⟩ := hc
    · exact ld_glob (X := X.suite a (X.pn ++ pins)) S1 g h q db
    · exact ld_blt (X := X.suite a (X.pn ++ pins)) S1 g h1 h2 q h3 db
  refine ask (ans.here (codeAny_handlers_suite_as (HandSPX.lands_againZ fl1 fun g2 fl2 up2 => ?_)))
  obtain ⟨o2, v2, ho2, hz2, hd2⟩ := fl2.there
  have J2 : Inv X pins σ' H' { s' with heap := g2 } := J.landed nb fl2.1 ((up.trans up1).trans up2) os ag
  have T2 : Inv X pins σ' (upd H' a (excO C a d)) { s' with heap := g2 } := track J2 ho2 na young nL npin (fun v z => by rw [hd2] at z; cases z)
    ⟨⟨o2, ho2, hz2, v2, hd2⟩, ⟨o2, ho2⟩, fun h1 h2 ⟨o, q, r⟩ k => ⟨o, k o q, r⟩⟩
  refine store_ok (X := X.suite a (X.pn ++ pins)) (v := .ref a) (toSuite T2 a) hN hi (.inl hln) rfl (fun s5 S5 => ?_) (.inr hln)
  refine wpAny_mono ((hsu a (X.pn ++ pins)).run [] s5 _ _ _ S5 (hk a na)) (fun f s6 hsp => ?_) fun _ _ z => z.elim
  cases f
  case ret u =>
    obtain ⟨v6, σ6, H6, S6, r6, q6⟩ := hsp
    exact gone_ok (fromSuite S6 ok) hN hi hln fun s7 J7 => ⟨v6, _, _, J7, r6, q6⟩
  all_goals
    obtain ⟨σ6, H6, S6, q6⟩ := hsp
    exact gone_ok (fromSuite S6 ok) hN hi hln fun s7 J7 => ⟨_, _, J7, q6⟩
end
end FM

set_option Elab.async false
set_option linter.all false
set_option maxRecDepth 100000
/-! what a thing owns is told by it; a caller's entries as a frame -/
namespace FM
open PySem L2
mutual
theorem Rep.det {c : Cfg} {B H : Hp} : ∀ {d : D} {m v L L'}, Rep c B H d m v L → Rep c B H d m v L' → L = L'
  | .hole, _, _, _, _, h, h' => by unfold Rep at h h'; rw [h, h']
  | .non, _, _, _, _, h, h' => by unfold Rep at h h'; rw [h.1, h'.1]
  | .bl _, _, _, _, _, h, h' => by unfold Rep at h h'; rw [h.1, h'.1]
  | .int _, _, _, _, _, h, h' => by unfold Rep at h h'; rw [h.1, h'.1]
  | .str _, _, _, _, _, h, h' => by unfold Rep at h h'; rw [h.1, h'.1]
  | .tup ds, _, _, _, _, h, h' => by
    unfold Rep at h h'
    obtain ⟨p, vs, rfl, s, r⟩ := h
    obtain ⟨p', vs', e, s', r'⟩ := h'
    cases e
    rw [s] at s'
    cases s'
    exact Reps.det r r'
  | .lst ds, m, _, _, _, h, h' => by
    unfold Rep at h h'
    obtain ⟨p, vs, L1, rfl, r, q⟩ := h
    obtain ⟨p', vs', L1', e, r', q'⟩ := h'
    cases e
    cases m with
    | dead => exact q.elim
    | deep =>
      obtain ⟨rfl, a⟩ := q
      obtain ⟨rfl, a'⟩ := q'
      rw [a] at a'
      cases a'
      rw [Reps.det r r']
    | shal =>
      obtain ⟨rfl, a⟩ := q
      obtain ⟨rfl, a'⟩ := q'
      rw [a] at a'
      cases a'
      rw [Reps.det r r']
    | frz =>
      rw [q.1, q'.1, Reps.unL rfl r, Reps.unL rfl r']
    | bor =>
      rw [q.1, q'.1, Reps.unL rfl r, Reps.unL rfl r']
  | .dct _, m, _, _, _, h, h' => by
    unfold Rep at h h'
    obtain ⟨p, rfl, q⟩ := h
    obtain ⟨p', e, q'⟩ := h'
    cases e
    cases m <;> first | exact q.elim | exact q.1.trans q'.1.symm
  | .ins _ _ ds, m, _, _, _, h, h' => by
    unfold Rep at h h'
    obtain ⟨p, a, dx, fs, L1, rfl, ec, en, r, q⟩ := h
    obtain ⟨p', a', dx', fs', L1', e, ec', en', r', q'⟩ := h'
    cases e
    cases m with
    | dead => exact q.elim
    | deep =>
      obtain ⟨rfl, z, _⟩ := q
      obtain ⟨rfl, z', _⟩ := q'
      rw [z] at z'
      cases z'
      rw [Reps.det r r']
    | shal =>
      obtain ⟨rfl, z, _⟩ := q
      obtain ⟨rfl, z', _⟩ := q'
      rw [z] at z'
      cases z'
      rw [Reps.det r r']
    | frz => rw [q.1, q'.1, Reps.unL rfl r, Reps.unL rfl r']
    | bor => rw [q.1, q'.1, Reps.unL rfl r, Reps.unL rfl r']
  | .exc _ _ _, _, _, _, _, h, h' => by
    unfold Rep at h h'
    rw [h.1, h'.1]
theorem Reps.det {c : Cfg} {B H : Hp} : ∀ {ds : List D} {m vs L L'}, Reps c B H ds m vs L → Reps c B H ds m vs L' → L = L'
  | [], _, _, _, _, h, h' => by rw [(Reps.nil_iff.mp h).2, (Reps.nil_iff.mp h').2]
  | d :: ds, _, _, _, _, h, h' => by
    obtain ⟨v, vs', L1, L2, rfl, rfl, h1, h2⟩ := Reps.cons_iff.mp h
    obtain ⟨v', vs2, L3, L4, e, rfl, h3, h4⟩ := Reps.cons_iff.mp h'
    cases e
    rw [Rep.det h1 h3, Reps.det h2 h4]
end
theorem EnR.det {c : Cfg} {B H : Hp} {e : En} {L L' : List Addr} (h : EnR c B H e L) (h' : EnR c B H e L') : L = L' := by
  rcases h with ⟨a, b⟩ | ⟨a, v, b, r⟩
  · rcases h' with ⟨a', _⟩ | ⟨a', v', b', r'⟩
    · rw [a, a']
    · rcases b with b | b
      · exact absurd b a'
      · rw [b] at r'
        rw [a, hole_rep.mp r']
  · rcases h' with ⟨a', b'⟩ | ⟨a', v', b', r'⟩
    · rcases b' with b' | b'
      · exact absurd b' a
      · rw [b'] at r
        rw [a', hole_rep.mp r]
    · rw [b] at b'
      cases b'
      exact Rep.det r r'
theorem EnRs.det {c : Cfg} {B H : Hp} : ∀ {es : List En} {L L' : List Addr}, EnRs c B H es L → EnRs c B H es L' → L = L'
  | [], _, _, h, h' => by
    have e : _ = [] := h
    have e' : _ = [] := h'
    rw [e, e']
  | x :: es, _, _, h, h' => by
    obtain ⟨L1, L2, rfl, h1, h2⟩ := h
    obtain ⟨L3, L4, rfl, h3, h4⟩ := h'
    rw [EnR.det h1 h3, EnRs.det h2 h4]
section
variable {c : Cfg} {H0 B B' H H' : Hp} {es as fr : List En}
/-- a caller's entries as a frame -/
theorem HA.toFrame (h : HA c H0 B H es fr) : HA c H B H [] (es.map En.kill ++ fr) := by
  obtain ⟨L1, L2, h1, h2, nd, f0, fb⟩ := h.ex
  refine ⟨⟨[], L1 ++ L2, rfl, EnRs.append.mpr ⟨L1, L2, rfl, h1.kill, h2⟩, nd, (fun _ z => nomatch z), fb⟩, h.bh, Ex.rfl', fun e he => ?_⟩
  rcases List.mem_append.mp he with he | he
  · exact kill_nb e he
  · exact h.nb e he
theorem HA.ofFrame (h : HA c H0 B H es fr) (r : HA c H B' H' as (es.map En.kill ++ fr)) (b : Ex B B') : HA c H0 B' H' (as ++ es) fr := by
  obtain ⟨L1, L2, h1, h2, nd, f0, fb⟩ := h.ex
  obtain ⟨La, _, ra, rb, rnd, rf0, rfb⟩ := r.ex
  obtain ⟨L3, L4, rfl, r3, r4⟩ := EnRs.append.mp rb
  have g := r.h0
  have m1 : EnRs c B' H' es L1 := h1.mono b (fun p _ o => g p o) (.inl g)
  have m2 : EnRs c B' H' fr L2 := h2.mono b (fun p _ o => g p o) (.inl g)
  have e1 := EnRs.det m1.kill r3
  have e2 := EnRs.det m2 r4
  subst e1 e2
  refine ⟨⟨La ++ L1, L2, EnRs.append.mpr ⟨La, L1, rfl, ra, m1⟩, m2, by rw [List.append_assoc]; exact rnd, fun p hp => ?_, fun p hp => rfb p (by rw [List.append_assoc] at hp; exact hp)⟩, r.bh, h.h0.tr g, h.nb⟩
  rcases List.mem_append.mp hp with hp | hp
  · exact Ex.back h.h0 (rf0 p hp)
  · exact f0 p hp
end
end FM

set_option Elab.async false
set_option linter.all false
set_option maxRecDepth 100000
namespace FM
open PySem L2

/-! ## the small language -/
abbrev Dat := List D
structure Sig where
  n : Nat
  res : M
inductive BOp | add | sub | mul | fdiv | mod | pow
  deriving DecidableEq
inductive COp | lt | le | gt | ge
  deriving DecidableEq
inductive Tg | one (i : Nat) | many (is : List Nat)
  deriving DecidableEq
inductive Ty | int | bool | list | tuple | str | own (C : Str)
  deriving DecidableEq
inductive BF | len | abs | min2 | max2 | maxL | sum | any | all | toInt | toStr | toList (imm : Bool) | toTup (imm : Bool)
  deriving DecidableEq
inductive IE
  | int (i : Int) | bl (b : Bool) | str (s : Str) | non
  | gint (x : Str) (n : Int) | lrng1 (a : IE)
  | var (i : Nat) | bor (i : Nat) | mv (i : Nat)
  | bin (o : BOp) (a b : IE) | neg (a : IE)
  | not (a : IE) | and (a b : IE) | or (a b : IE) | ite (c a b : IE)
  | cmp (o : COp) (a b : IE) | eq (neg : Bool) (a b : IE) | isN (neg : Bool) (a : IE)
  | nil | cons (a r : IE)
  | lst (r : IE) | tup (r : IE)
  | ix (a i : IE) | slc (im : Bool) (a lo hi : IE)
  | catL (im : Bool) (a b : IE) | catT (a b : IE) | rep (a n : IE)
  | blt (f : BF) (r : IE)
  | lc (own : List (Str × Nat)) (elt : IE) (tg : Tg) (it : IE) (cond : IE)
  | itT (a : IE) | itS (a : IE)
  | rng1 (a : IE) | rng2 (a b : IE) | zip (a b : IE) | enm (a : IE) | revR (a : IE) | enmT (a : IE) | trng1 (a : IE)
  | call (f : Str) (r : IE)
  | attr (a : IE) (C f : Str)
  | get (a k d : IE)
  | isi (a : IE) (T : Ty)
  | imm (a : IE) | fz (a : IE) | sh (a : IE)
  | dnew | dget (a k : IE) | dictOf (a : IE)
  | lcI (own : List (Str × Nat)) (elt : IE) (tg : Tg) (keys : Bool) (i : Nat) (cond : IE)
  | srt (a : IE) | isin (neg : Bool) (a b : IE) | join (s a : IE)
inductive IS
  | nil | cons (s r : IS)
  | set (i : Nat) (e : IE) | par (i j : Nat) (a b : IE) | unp (is : List Nat) (e : IE)
  | ite (c : IE) (a b : IS)
  | for (tg : Tg) (it : IE) (inv : List M) (body : IS)
  | while (c : IE) (inv : List M) (body : IS)
  | ret (e : IE) | retN | drop (e : IE) | doc
  | app (i : Nat) (e : IE) | setix (i : Nat) (k e : IE) | dput (i : Nat) (k e : IE)
  | raise (C : Str) | raiseF (C : Str) (r : IE)
  | appT (e a : IE)
  | aug (i : Nat) (sub : Bool) (e : IE)
  | tryx (i j : Nat) (Δx : List M) (body : IS)
  | appPop (i j : Nat) (k : IE) | popS (i : Nat) (k : IE) | setPop (i j : Nat) (k : IE)
  | swap (i : Nat) (k1 k2 e : IE)
  | never
  | appEach (i t : Nat) (n : Int)

/-! ## data -/
def LIM : Nat := 1000000
mutual
def D.imm : D → Bool
  | .tup xs => D.imms xs
  | .lst _ | .dct _ | .ins _ _ _ | .hole => false
  | _ => true
def D.imms : List D → Bool
  | [] => true
  | d :: ds => d.imm && D.imms ds
end
mutual
def D.py : D → Option PyData
  | .non => some .none
  | .bl b => some (.bool b)
  | .int i => some (.int i)
  | .str s => some (.str s)
  | .tup xs => (D.pys xs).map .tuple
  | .lst xs => (D.pys xs).map .list
  | _ => none
def D.pys : List D → Option (List PyData)
  | [] => some []
  | d :: ds => match d.py, D.pys ds with
    | some x, some xs => some (x :: xs)
    | _, _ => none
end
def D.live : D → Prop
  | .hole => False
  | _ => True
def asB : D → (Bool → Prop) → Prop
  | .bl b, K => K b
  | _, _ => False
def asI : D → (Int → Prop) → Prop
  | .int i, K => K i
  | _, _ => False
def asL : D → (Dat → Prop) → Prop
  | .lst xs, K => K xs
  | _, _ => False
def asT : D → (Dat → Prop) → Prop
  | .tup xs, K => K xs
  | _, _ => False
def DivOk (i j : Int) : Prop := j ≠ 0 ∧ Builtin.divisionGoesByPylong i j = false
def asS : D → (Str → Prop) → Prop
  | .str s, K => K s
  | _, _ => False
def binD : BOp → D → D → (D → Prop) → Prop
  | .add, .int i, .int j, K => K (.int (i + j))
  | .add, .str a, .str b, K => a.length + b.length ≤ LIM ∧ K (.str (a ++ b))
  | .sub, .int i, .int j, K => K (.int (i - j))
  | .mul, .int i, .int j, K => IntMulOk i j ∧ K (.int (i * j))
  | .fdiv, .int i, .int j, K => DivOk i j ∧ K (.int (i.fdiv j))
  | .mod, .int i, .int j, K => j ≠ 0 ∧ K (.int (i.fmod j))
  | .pow, .int i, .int j, K => (0 ≤ j ∧ j ≤ 1000 ∧ i.natAbs < 2 ^ 64) ∧ K (.int (i ^ j.toNat))
  | _, _, _, _ => False
def cmpI : COp → Int → Int → Bool
  | .lt, i, j => decide (i < j)
  | .le, i, j => decide (i ≤ j)
  | .gt, i, j => decide (j < i)
  | .ge, i, j => decide (j ≤ i)
def isNon : D → Bool
  | .non => true
  | _ => false
def eqD (x y : D) (K : Bool → Prop) : Prop :=
  match x.py, y.py with
  | some p, some q => (SeqAt.shaped p = true ∧ SeqAt.shaped q = true) ∧ K (PyData.eqv p q)
  | _, _ => False
def intsOf : Dat → Option (List Int)
  | [] => some []
  | .int i :: ds => (intsOf ds).map (i :: ·)
  | _ => none
def blsOf : Dat → Option (List Bool)
  | [] => some []
  | .bl b :: ds => (blsOf ds).map (b :: ·)
  | _ => none
def small (n : Int) : Prop := -1000000000 ≤ n ∧ n ≤ 1000000000
def sIx (n d : Nat) : Option Int → Nat := HT.sIx n d
def cut (xs : Dat) (lo hi : Option Int) : Dat := (xs.drop (HT.sIx xs.length 0 lo)).take (HT.sIx xs.length xs.length hi - HT.sIx xs.length 0 lo)
def itemD (x : D) (i : Int) (K : D → Prop) : Prop :=
  match x with
  | .lst xs => match atI xs i with | some d => d.live ∧ K d | none => False
  | .tup xs => match atI xs i with | some d => d.live ∧ K d | none => False
  | .str s => match atI s.cps.toList i with | some c => s.length ≤ LIM ∧ K (.str ⟨#[c]⟩) | none => False
  | _ => False
/-- an optional part of a slice (b: it is left out) -/
def asO (b : Bool) (x : D) (K : Option Int → Prop) : Prop := if b = true then K none else match x with
  | .int i => K (some i)
  | _ => False
def slcD (im : Bool) (x : D) (lo hi : Option Int) (K : D → Prop) : Prop :=
  match x with
  | .lst xs => (im = true → D.imms xs = true) ∧ K (.lst (cut xs lo hi))
  | .tup xs => D.imms xs = true ∧ K (.tup (cut xs lo hi))
  | .str s => s.length ≤ LIM ∧ K (.str (L2.cutS s lo hi))
  | _ => False
def bltD : BF → Dat → (D → Prop) → Prop
  | .len, [.lst xs], K => K (.int xs.length)
  | .len, [.tup xs], K => K (.int xs.length)
  | .len, [.str s], K => s.length ≤ LIM ∧ K (.int s.length)
  | .abs, [.int i], K => K (.int (if i < 0 then -i else i))
  | .min2, [.int i, .int j], K => K (.int (if j < i then j else i))
  | .max2, [.int i, .int j], K => K (.int (if j > i then j else i))
  | .maxL, [.lst xs], K => match intsOf xs with
    | some ns => 0 < ns.length ∧ ∀ m, m ∈ ns → (∀ y ∈ ns, y ≤ m) → K (.int m)
    | none => False
  | .sum, [.lst xs], K => match intsOf xs with
    | some ns => K (.int ns.sum)
    | none => False
  | .any, [.lst xs], K => match blsOf xs with
    | some bs => K (.bl (bs.any id))
    | none => False
  | .all, [.lst xs], K => match blsOf xs with
    | some bs => K (.bl (bs.all id))
    | none => False
  | .toInt, [.int i], K => K (.int i)
  | .toInt, [.bl b], K => K (.int (if b then 1 else 0))
  | .toStr, [.int i], K => i.natAbs.log2 < 1920 ∧ K (.str (toString i))
  | .toList im, [.lst xs], K => (im = true → D.imms xs = true) ∧ K (.lst xs)
  | .toList im, [.tup xs], K => (im = true → D.imms xs = true) ∧ K (.lst xs)
  | .toTup im, [.lst xs], K => (im = true → D.imms xs = true) ∧ K (.tup xs)
  | .toTup im, [.tup xs], K => (im = true → D.imms xs = true) ∧ K (.tup xs)
  | _, _, _ => False
/-- the program's own errors -/
def isExc (C : Str) : Bool := (["FlatError", "NotAlike", "BadCount", "BadRows", "BadRow", "OtherSpace", "BadSize", "BadPlaces", "ZeroSum", "NoBox", "BadTable", "NoLine", "BadName", "NoRow", "NoName"] : List Str).contains C
def subX (C T : Str) : Bool := C == T || (isExc C && (T == ("FlatError" : Str) || T == ("ValueError" : Str)))
def isiD : Ty → D → Option Bool
  | _, .dct _ => none
  | .int, .hole | .bool, .hole | .list, .hole | .tuple, .hole | .str, .hole => none
  | .int, .exc _ _ _ | .bool, .exc _ _ _ | .list, .exc _ _ _ | .tuple, .exc _ _ _ | .str, .exc _ _ _ => none
  | .int, .ins _ _ _ | .bool, .ins _ _ _ | .list, .ins _ _ _ | .tuple, .ins _ _ _ | .str, .ins _ _ _ => none
  | .int, .int _ => some true
  | .int, .bl _ => some true
  | .int, _ => some false
  | .bool, .bl _ => some true
  | .bool, _ => some false
  | .list, .lst _ => some true
  | .list, _ => some false
  | .tuple, .tup _ => some true
  | .tuple, _ => some false
  | .str, .str _ => some true
  | .str, _ => some false
  | .own T, .ins C _ _ => if isExc C = true then none else some (subX C T)
  | .own T, .exc C ns _ => if isExc C = true ∧ ns = [] then some (subX C T) else none
  | .own _, .non => some false
  | .own _, _ => none
/-- how an item comes to its target -/
def setAll : List Nat → Dat → Dat → Dat
  | i :: is, d :: ds, ρ => setAll is ds (ρ.set i d)
  | _, _, ρ => ρ
def tgD : Tg → D → Dat → (Dat → Prop) → Prop
  | .one i, d, ρ, K => K (ρ.set i d)
  | .many is, .tup ds, ρ, K => ds.length = is.length ∧ K (setAll is ds ρ)
  | _, _, _, _ => False
def wipeD : List (Str × Nat) → Dat → Dat
  | [], ρ => ρ
  | p :: own, ρ => (wipeD own ρ).set p.2 .hole
def goLC (tg : Tg) (cond : Dat → (Bool → Prop) → Prop) (elt : Dat → (D → Prop) → Prop) (ρ : Dat) : Dat → (Dat → Prop) → Prop
  | [], K => K []
  | d :: ds, K => tgD tg d ρ fun ρ' => cond ρ' fun b => if b = true then elt ρ' fun y => goLC tg cond elt ρ ds fun ys => K (y :: ys) else goLC tg cond elt ρ ds K
def fldD (C f : Str) (x : D) (K : D → Prop) : Prop := match x with
  | .ins C' ns vs => C = C' ∧ match (ns.zip vs).lookup f with
    | some d => d.live ∧ K d
    | none => False
  | .exc C' ns vs => C = C' ∧ match (ns.zip vs).lookup f with
    | some d => d.live ∧ K d
    | none => False
  | _ => False
/-- int and text keys -/
def flD : D → Option V
  | .non => some .non
  | .bl b => some (.bl b)
  | .int i => some (.int i)
  | .str s => some (.str s)
  | _ => none
def flDs : Dat → Option (List V)
  | [] => some []
  | d :: ds => match flD d, flDs ds with
    | some v, some vs => some (v :: vs)
    | _, _ => none
def seqD (x : D) (K : Dat → Prop) : Prop := match x with
  | .lst xs => K xs
  | .tup xs => K xs
  | _ => False
def strsOf : Dat → Option (List Str)
  | [] => some []
  | .str s :: ds => (strsOf ds).map (s :: ·)
  | _ => none
def putD (kvs : List (List Int × Int)) (ns : List Int) (n : Int) : List (List Int × Int) :=
  if kvs.any (fun p => decide (p.1 = ns)) then kvs.map (fun p => if p.1 = ns then (p.1, n) else p) else kvs ++ [(ns, n)]
def getD' (kvs : List (List Int × Int)) (ns : List Int) : Option Int := (kvs.find? fun p => decide (p.1 = ns)).map (·.2)
def lstsOf : Dat → Option (List Dat)
  | [] => some []
  | .lst xs :: ds => (lstsOf ds).map (xs :: ·)
  | _ => none
/-- pairs (tuple of ints, int) -/
def pairsD : Dat → Option (List (List Int × Int))
  | [] => some []
  | .tup [.tup ks, .int n] :: ds => match intsOf ks, pairsD ds with
    | some ns, some r => some ((ns, n) :: r)
    | _, _ => none
  | _ => none
def asD (x : D) (K : List (List Int × Int) → Prop) : Prop := match x with
  | .dct kvs => K kvs
  | _ => False
def keyD (x : D) (K : List Int → Prop) : Prop := match x with
  | .tup ks => match intsOf ks with
    | some ns => K ns
    | none => False
  | _ => False
def optG {α : Type} (o : Option α) (K : α → Prop) : Prop := match o with
  | some x => K x
  | none => False
/-- the items of a dict's walk -/
def itemsD (keys : Bool) (kvs : List (List Int × Int)) : Dat := kvs.map fun p => if keys = true then .tup (p.1.map D.int) else .tup [.tup (p.1.map D.int), .int p.2]
def popD (xs : Dat) (k : Option Int) (K : D → Dat → Prop) : Prop := match k with
  | none => optG xs[xs.length - 1]? fun d => K d xs.dropLast
  | some j => small j ∧ optG (ixN xs.length j) fun n => optG xs[n]? fun d => K d (xs.eraseIdx n)
def srtD (x : D) (K : D → Prop) : Prop := seqD x fun xs => D.imms xs = true ∧ optG (D.pys xs) fun ps => SrtOk ps ∧ K (.lst ((ordL (·.2) (xs.zip ps)).map (·.1)))
abbrev FSem := Dat → (D → Prop) → (D → Prop) → Prop
abbrev XPost := D → Dat → Prop
def noX : XPost := fun _ _ => False

def isNil : IE → Bool
  | .nil => true
  | _ => false

/-! ## what an expression is worth -/
def wpE (Ω : Str → FSem) : IE → Dat → (D → Dat → Prop) → XPost → Prop
  | .int i, ρ, Q, _ => Q (.int i) ρ
  | .bl b, ρ, Q, _ => Q (.bl b) ρ
  | .str s, ρ, Q, _ => Q (.str s) ρ
  | .non, ρ, Q, _ => Q .non ρ
  | .gint _ n, ρ, Q, _ => Q (.int n) ρ
  | .lrng1 a, ρ, Q, X => wpE Ω a ρ (fun x ρ1 => asI x fun n => (small n ∧ n.toNat ≤ LIM) ∧ Q (.lst ((List.range n.toNat).map fun k => .int (k : Nat))) ρ1) X
  | .var i, ρ, Q, _ => (ρ.getD i .hole).live ∧ Q (ρ.getD i .hole) ρ
  | .bor i, ρ, Q, _ => (ρ.getD i .hole).live ∧ Q (ρ.getD i .hole) ρ
  | .mv i, ρ, Q, _ => (ρ.getD i .hole).live ∧ Q (ρ.getD i .hole) (ρ.set i .hole)
  | .bin o a b, ρ, Q, X => wpE Ω a ρ (fun x ρ1 => wpE Ω b ρ1 (fun y ρ2 => binD o x y fun z => Q z ρ2) X) X
  | .neg a, ρ, Q, X => wpE Ω a ρ (fun x ρ1 => asI x fun i => Q (.int (-i)) ρ1) X
  | .not a, ρ, Q, X => wpE Ω a ρ (fun x ρ1 => asB x fun b => Q (.bl (!b)) ρ1) X
  | .and a b, ρ, Q, X => wpE Ω a ρ (fun x ρ1 => asB x fun k => if k = true then wpE Ω b ρ1 (fun y ρ2 => asB y fun j => Q (.bl j) ρ2) X else Q (.bl false) ρ1) X
  | .or a b, ρ, Q, X => wpE Ω a ρ (fun x ρ1 => asB x fun k => if k = true then Q (.bl true) ρ1 else wpE Ω b ρ1 (fun y ρ2 => asB y fun j => Q (.bl j) ρ2) X) X
  | .ite c a b, ρ, Q, X => wpE Ω c ρ (fun x ρ1 => asB x fun k => if k = true then wpE Ω a ρ1 Q X else wpE Ω b ρ1 Q X) X
  | .cmp o a b, ρ, Q, X => wpE Ω a ρ (fun x ρ1 => wpE Ω b ρ1 (fun y ρ2 => asI x fun i => asI y fun j => Q (.bl (cmpI o i j)) ρ2) X) X
  | .eq neg a b, ρ, Q, X => wpE Ω a ρ (fun x ρ1 => wpE Ω b ρ1 (fun y ρ2 => eqD x y fun k => Q (.bl (if neg = true then !k else k)) ρ2) X) X
  | .isN neg a, ρ, Q, X => wpE Ω a ρ (fun x ρ1 => x.live ∧ Q (.bl (if neg = true then !isNon x else isNon x)) ρ1) X
  | .nil, ρ, Q, _ => Q (.tup []) ρ
  | .cons a r, ρ, Q, X => wpE Ω a ρ (fun x ρ1 => wpE Ω r ρ1 (fun y ρ2 => asT y fun ys => Q (.tup (x :: ys)) ρ2) X) X
  | .lst r, ρ, Q, X => wpE Ω r ρ (fun x ρ1 => asT x fun xs => Q (.lst xs) ρ1) X
  | .tup r, ρ, Q, X => wpE Ω r ρ (fun x ρ1 => asT x fun xs => Q (.tup xs) ρ1) X
  | .ix a i, ρ, Q, X => wpE Ω a ρ (fun x ρ1 => wpE Ω i ρ1 (fun y ρ2 => asI y fun j => itemD x j fun z => Q z ρ2) X) X
  | .slc im a lo hi, ρ, Q, X => wpE Ω a ρ (fun x ρ1 => wpE Ω lo ρ1 (fun l ρ2 => asO (isNil lo) l fun l => wpE Ω hi ρ2 (fun h ρ3 => asO (isNil hi) h fun h => slcD im x l h fun z => Q z ρ3) X) X) X
  | .catL im a b, ρ, Q, X => wpE Ω a ρ (fun x ρ1 => wpE Ω b ρ1 (fun y ρ2 => asL x fun xs => asL y fun ys => (xs.length + ys.length ≤ LIM ∧ (im = true → D.imms xs = true ∧ D.imms ys = true)) ∧ Q (.lst (xs ++ ys)) ρ2) X) X
  | .catT a b, ρ, Q, X => wpE Ω a ρ (fun x ρ1 => wpE Ω b ρ1 (fun y ρ2 => asT x fun xs => asT y fun ys => (xs.length + ys.length ≤ LIM ∧ D.imms xs = true ∧ D.imms ys = true) ∧ Q (.tup (xs ++ ys)) ρ2) X) X
  | .rep a n, ρ, Q, X => wpE Ω a ρ (fun x ρ1 => wpE Ω n ρ1 (fun y ρ2 => asL x fun xs => asI y fun j => (small j ∧ xs.length * j.toNat ≤ LIM ∧ D.imms xs = true) ∧ Q (.lst (List.replicate j.toNat xs).flatten) ρ2) X) X
  | .blt f r, ρ, Q, X => wpE Ω r ρ (fun x ρ1 => asT x fun xs => bltD f xs fun z => Q z ρ1) X
  | .lc own elt tg it cond, ρ, Q, X => wpE Ω it ρ (fun x ρ1 => asL x fun ds => ds.length ≤ LIM ∧
      goLC tg (fun ρ K => wpE Ω cond ρ (fun y _ => asB y K) noX) (fun ρ K => wpE Ω elt ρ (fun y _ => K y) noX) (wipeD own ρ1) ds fun ys => Q (.lst ys) ρ1) X
  | .itT a, ρ, Q, X => wpE Ω a ρ (fun x ρ1 => asT x fun xs => Q (.lst xs) ρ1) X
  | .itS a, ρ, Q, X => wpE Ω a ρ (fun x ρ1 => asS x fun s => Q (.lst (s.cps.toList.map fun n => .str ⟨#[n]⟩)) ρ1) X
  | .rng1 a, ρ, Q, X => wpE Ω a ρ (fun x ρ1 => asI x fun n => small n ∧ Q (.lst ((List.range n.toNat).map fun k => .int (k : Nat))) ρ1) X
  | .rng2 a b, ρ, Q, X => wpE Ω a ρ (fun x ρ1 => wpE Ω b ρ1 (fun y ρ2 => asI x fun i => asI y fun n => (small i ∧ small n) ∧ Q (.lst ((List.range (n - i).toNat).map fun k => .int (i + (k : Nat)))) ρ2) X) X
  | .zip a b, ρ, Q, X => wpE Ω a ρ (fun x ρ1 => wpE Ω b ρ1 (fun y ρ2 => asL x fun xs => asL y fun ys => Q (.lst (List.zipWith (fun p q => .tup [p, q]) xs ys)) ρ2) X) X
  | .enm a, ρ, Q, X => wpE Ω a ρ (fun x ρ1 => asL x fun xs => Q (.lst (xs.mapIdx fun k d => .tup [.int (k : Nat), d])) ρ1) X
  | .enmT a, ρ, Q, X => wpE Ω a ρ (fun x ρ1 => asT x fun xs => Q (.lst (xs.mapIdx fun k d => .tup [.int (k : Nat), d])) ρ1) X
  | .trng1 a, ρ, Q, X => wpE Ω a ρ (fun x ρ1 => asI x fun n => (small n ∧ n.toNat ≤ LIM) ∧ Q (.tup ((List.range n.toNat).map fun k => .int (k : Nat))) ρ1) X
  | .revR a, ρ, Q, X => wpE Ω a ρ (fun x ρ1 => asI x fun n => small n ∧ Q (.lst ((List.range n.toNat).reverse.map fun k => .int (k : Nat))) ρ1) X
  | .call f r, ρ, Q, X => wpE Ω r ρ (fun x ρ1 => asT x fun xs => Ω f xs (fun d => Q d ρ1) (fun e => X e ρ1)) X
  | .attr a C f, ρ, Q, X => wpE Ω a ρ (fun x ρ1 => fldD C f x fun d => Q d ρ1) X
  | .get a k d, ρ, Q, X => wpE Ω a ρ (fun x ρ1 => asD x fun kvs => wpE Ω k ρ1 (fun y ρ2 => wpE Ω d ρ2 (fun z ρ3 => keyD y fun ns => asI z fun n => Q (.int ((getD' kvs ns).getD n)) ρ3) X) X) X
  | .isi a T, ρ, Q, X => wpE Ω a ρ (fun x ρ1 => match isiD T x with
      | some b => Q (.bl b) ρ1
      | none => False) X
  | .dnew, ρ, Q, _ => Q (.dct []) ρ
  | .dget a k, ρ, Q, X => wpE Ω a ρ (fun x ρ1 => wpE Ω k ρ1 (fun y ρ2 => asD x fun kvs => keyD y fun ns => optG (getD' kvs ns) fun n => Q (.int n) ρ2) X) X
  | .dictOf a, ρ, Q, X => wpE Ω a ρ (fun x ρ1 => asL x fun xs => optG (pairsD xs) fun ps => Q (.dct (ps.foldl (fun a p => putD a p.1 p.2) [])) ρ1) X
  | .lcI own elt tg keys i cond, ρ, Q, X => asD (ρ.getD i .hole) fun kvs => kvs.length ≤ LIM ∧
      goLC tg (fun ρ K => wpE Ω cond ρ (fun y _ => asB y K) noX) (fun ρ K => wpE Ω elt ρ (fun y _ => K y) noX) (wipeD own ρ) (itemsD keys kvs) fun ys => Q (.lst ys) ρ
  | .srt a, ρ, Q, X => wpE Ω a ρ (fun x ρ1 => srtD x fun z => Q z ρ1) X
  | .isin neg a b, ρ, Q, X => wpE Ω a ρ (fun x ρ1 => wpE Ω b ρ1 (fun y ρ2 => seqD y fun ys => optG (flD x) fun v => optG (flDs ys) fun vs => Q (.bl (if neg = true then !inV v vs else inV v vs)) ρ2) X) X
  | .join s a, ρ, Q, X => wpE Ω s ρ (fun x ρ1 => asS x fun t => wpE Ω a ρ1 (fun y ρ2 => asL y fun ys => optG (strsOf ys) fun ts => ((ts.map (·.length)).sum + ts.length * t.length ≤ LIM) ∧ Q (.str (Txt.join t ts)) ρ2) X) X
  | .imm a, ρ, Q, X => wpE Ω a ρ (fun x ρ1 => x.imm = true ∧ Q x ρ1) X
  | .fz a, ρ, Q, X => wpE Ω a ρ Q X
  | .sh a, ρ, Q, X => wpE Ω a ρ (fun x ρ1 => asL x fun xs => Q (.lst xs) ρ1) X

structure Po where
  nx : Dat → Prop
  rt : D → Prop
  ex : XPost
def goFor (tg : Tg) (body : Dat → Po → Prop) (P : Po) : Dat → Dat → Prop
  | [], ρ => P.nx ρ
  | d :: ds, ρ => tgD tg d ρ fun ρ1 => body ρ1 { P with nx := goFor tg body P ds }
def wpS (Ω : Str → FSem) (ci : Str → Option (List Str)) : IS → Dat → Po → Prop
  | .nil, ρ, P => P.nx ρ
  | .cons s r, ρ, P => wpS Ω ci s ρ { P with nx := fun ρ1 => wpS Ω ci r ρ1 P }
  | .set i e, ρ, P => wpE Ω e ρ (fun d ρ1 => P.nx (ρ1.set i d)) P.ex
  | .par i j a b, ρ, P => wpE Ω a ρ (fun x ρ1 => wpE Ω b ρ1 (fun y ρ2 => P.nx ((ρ2.set i x).set j y)) P.ex) P.ex
  | .unp is e, ρ, P => wpE Ω e ρ (fun x ρ1 => tgD (.many is) x ρ1 P.nx) P.ex
  | .ite c a b, ρ, P => wpE Ω c ρ (fun x ρ1 => asB x fun k => if k = true then wpS Ω ci a ρ1 P else wpS Ω ci b ρ1 P) P.ex
  | .for tg it _ body, ρ, P => wpE Ω it ρ (fun x ρ1 => asL x fun ds => goFor tg (wpS Ω ci body) P ds ρ1) P.ex
  | .while c _ body, ρ, P => ∃ I : Nat → Dat → Prop, (∃ m, I m ρ) ∧ ∀ m ρ, I m ρ → wpE Ω c ρ (fun x ρ1 => asB x fun k => if k = true then wpS Ω ci body ρ1 { P with nx := fun ρ2 => ∃ m', m' < m ∧ I m' ρ2 } else P.nx ρ1) P.ex
  | .ret e, ρ, P => wpE Ω e ρ (fun d _ => P.rt d) P.ex
  | .retN, ρ, P => P.rt .non
  | .drop e, ρ, P => wpE Ω e ρ (fun _ ρ1 => P.nx ρ1) P.ex
  | .doc, ρ, P => P.nx ρ
  | .app i e, ρ, P => asL (ρ.getD i .hole) fun _ => wpE Ω e ρ (fun d ρ1 => asL (ρ1.getD i .hole) fun xs => xs.length < LIM ∧ P.nx (ρ1.set i (.lst (xs ++ [d])))) P.ex
  | .setix i k e, ρ, P => wpE Ω e ρ (fun d ρ1 => asL (ρ1.getD i .hole) fun _ => wpE Ω k ρ1 (fun y ρ2 => asI y fun j => asL (ρ2.getD i .hole) fun xs => match ixN xs.length j with
      | some n => P.nx (ρ2.set i (.lst (xs.set n d)))
      | none => False) P.ex) P.ex
  | .dput i k e, ρ, P => wpE Ω e ρ (fun d ρ1 => asD (ρ1.getD i .hole) fun _ => wpE Ω k ρ1 (fun y ρ2 => asD (ρ2.getD i .hole) fun kvs => keyD y fun ns => asI d fun n => kvs.length < LIM ∧ P.nx (ρ2.set i (.dct (putD kvs ns n)))) P.ex) P.ex
  | .appPop i j k, ρ, P => asL (ρ.getD i .hole) fun _ => asL (ρ.getD j .hole) fun _ => wpE Ω k ρ (fun y ρ1 => asO (isNil k) y fun k => asL (ρ1.getD j .hole) fun xs => popD xs k fun d ys =>
      asL ((ρ1.set j (.lst ys)).getD i .hole) fun zs => zs.length < LIM ∧ P.nx ((ρ1.set j (.lst ys)).set i (.lst (zs ++ [d])))) P.ex
  | .popS j k, ρ, P => asL (ρ.getD j .hole) fun _ => wpE Ω k ρ (fun y ρ1 => asO (isNil k) y fun k => asL (ρ1.getD j .hole) fun xs => popD xs k fun _ ys => P.nx (ρ1.set j (.lst ys))) P.ex
  | .setPop i j k, ρ, P => asL (ρ.getD j .hole) fun _ => wpE Ω k ρ (fun y ρ1 => asO (isNil k) y fun k => asL (ρ1.getD j .hole) fun xs => popD xs k fun d ys => P.nx ((ρ1.set j (.lst ys)).set i d)) P.ex
  | .swap i k1 k2 e, ρ, P => wpE Ω e ρ (fun x ρ1 => asT x fun es => match es with
      | [a, b] => asL (ρ1.getD i .hole) fun _ => wpE Ω k1 ρ1 (fun y ρ2 => asI y fun j1 => asL (ρ2.getD i .hole) fun xs => optG (ixN xs.length j1) fun n1 =>
          wpE Ω k2 (ρ2.set i (.lst (xs.set n1 a))) (fun z ρ3 => asI z fun j2 => asL (ρ3.getD i .hole) fun ys => optG (ixN ys.length j2) fun n2 => P.nx (ρ3.set i (.lst (ys.set n2 b)))) P.ex) P.ex
      | _ => False) P.ex
  | .never, _, _ => False
  | .appEach i t n, ρ, P => asL (ρ.getD i .hole) fun rows => optG (lstsOf rows) fun xss => (∀ xs ∈ xss, xs.length < LIM) ∧ P.nx ((ρ.set t .hole).set i (.lst (xss.map fun xs => .lst (xs ++ [.int n]))))
  | .raise C, ρ, P => P.ex (.exc C [] []) ρ
  | .raiseF C r, ρ, P => wpE Ω r ρ (fun x ρ1 => asT x fun xs => match ci C with
      | some ns => (ns.length = xs.length ∧ D.imms xs = true) ∧ P.ex (.exc C ns xs) ρ1
      | none => False) P.ex
  | .appT e a, ρ, P => wpE Ω e ρ (fun x ρ1 => asL x fun xs => wpE Ω a ρ1 (fun _ ρ2 => xs.length < LIM ∧ P.nx ρ2) P.ex) P.ex
  | .tryx i j _ body, ρ, P => wpS Ω ci body ρ { P with ex := fun x ρ1 => P.nx ((ρ1.set i .hole).set j x) }
  | .aug i sub e, ρ, P => asI (ρ.getD i .hole) fun a => wpE Ω e ρ (fun y ρ1 => asI y fun b => P.nx (ρ1.set i (.int (if sub = true then a - b else a + b)))) P.ex

/-! ## modes -/
def M.le : M → M → Bool
  | .deep, .deep | .deep, .frz | .shal, .shal | .shal, .frz | .frz, .frz | .bor, .bor | _, .dead => true
  | _, _ => false
def M.join (a b : M) : M := if a = b then a else match a, b with
  | .bor, _ | _, .bor | .dead, _ | _, .dead => .dead
  | _, _ => .frz
def M.owned : M → Bool
  | .deep | .shal | .frz => true
  | _ => false
def lentM : M → M
  | .dead => .dead
  | _ => .frz
def killM : M → M
  | .bor => .dead
  | m => m
def frzM : M → M
  | .frz => .frz
  | _ => .dead
def setM : List Nat → M → List M → List M
  | i :: is, m, Δ => setM is m (Δ.set i m)
  | [], _, Δ => Δ
def tgM : Tg → M → List M → List M
  | .one i, m, Δ => Δ.set i m
  | .many is, m, Δ => setM is m Δ
def wipeM : List (Str × Nat) → List M → List M
  | [], Δ => Δ
  | p :: own, Δ => (wipeM own Δ).set p.2 .dead
/-- sg: what the defs are promised to take and give; xr: where a raise is caught in this def, the modes that must stand there -/
structure SigT where
  sg : Str → Option Sig
  xr : Option (List M)
def SigT.xok (t : SigT) (Δ : List M) : Bool := match t.xr with
  | none => true
  | some Δx => decide (Δx = Δ)
def one? : List M → Option M
  | [m] => some m
  | _ => none
abbrev TyO := Option (List M)
def joinO : TyO → TyO → TyO
  | none, y => y
  | x, none => x
  | some a, some b => some (List.zipWith M.join a b)
def leO : TyO → List M → Bool
  | none, _ => true
  | some a, b => a.length = b.length && (List.zipWith M.le a b).all id
def tyE (sg : SigT) : IE → List M → Option (List M × List M)
  | .int _, Δ | .bl _, Δ | .str _, Δ | .non, Δ | .gint _ _, Δ => some ([.deep], Δ)
  | .var i, Δ => match Δ[i]? with
    | some m => if m.owned = true then some ([.frz], Δ.set i .frz) else none
    | none => none
  | .bor i, Δ => match Δ[i]? with
    | some m => if m = .dead then none else some ([.bor], Δ)
    | none => none
  | .mv i, Δ => match Δ[i]? with
    | some m => if m.owned = true then some ([m], Δ.set i .dead) else none
    | none => none
  | .bin _ a b, Δ | .cmp _ a b, Δ | .eq _ a b, Δ => (tyE sg a Δ).bind fun (ma, Δ1) => (tyE sg b Δ1).bind fun (mb, Δ2) => (one? ma).bind fun _ => (one? mb).bind fun _ => some ([.deep], Δ2)
  | .lrng1 a, Δ | .trng1 a, Δ | .neg a, Δ | .not a, Δ | .isN _ a, Δ | .isi a _, Δ => (tyE sg a Δ).bind fun (ma, Δ1) => (one? ma).bind fun _ => some ([.deep], Δ1)
  | .and a b, Δ | .or a b, Δ => (tyE sg a Δ).bind fun (ma, Δ1) => (tyE sg b Δ1).bind fun (mb, Δ2) => (one? ma).bind fun _ => (one? mb).bind fun _ => if leO (some Δ1) Δ2 = true then some ([.deep], Δ2) else none
  | .ite c a b, Δ => (tyE sg c Δ).bind fun (mc, Δ0) => (tyE sg a Δ0).bind fun (ma, Δ1) => (tyE sg b Δ0).bind fun (mb, Δ2) => (one? mc).bind fun _ => (one? ma).bind fun x => (one? mb).bind fun y => if Δ1 = Δ2 ∧ x = y then some ([x], Δ1) else none
  | .nil, Δ => some ([], Δ)
  | .cons a r, Δ => (tyE sg a Δ).bind fun (ma, Δ1) => (tyE sg r Δ1).bind fun (mr, Δ2) => (one? ma).bind fun x => some (x :: mr, Δ2)
  | .lst r, Δ => (tyE sg r Δ).bind fun (ms, Δ1) => if ms.length > 1000 then none else if ms.all (· = .deep) then some ([.deep], Δ1) else if ms.all (· = .frz) then some ([.shal], Δ1) else none
  | .tup r, Δ => (tyE sg r Δ).bind fun (ms, Δ1) => if ms.length > 1000 then none else if ms.all (· = .deep) then some ([.deep], Δ1) else if ms.all (· = .frz) then some ([.frz], Δ1) else none
  | .ix a i, Δ => (tyE sg a Δ).bind fun (ma, Δ1) => (tyE sg i Δ1).bind fun (mi, Δ2) => (one? ma).bind fun x => (one? mi).bind fun _ => if x = .dead then none else some ([x.inner], Δ2)
  | .slc im a lo hi, Δ => (tyE sg a Δ).bind fun (ma, Δ1) => (tyE sg lo Δ1).bind fun (ml, Δ2) => (tyE sg hi Δ2).bind fun (mh, Δ3) => (one? ma).bind fun x =>
      if (isNil lo = false ∧ ml.length ≠ 1) ∨ (isNil hi = false ∧ mh.length ≠ 1) then none else if im = true then some ([.deep], Δ3) else match x with
      | .deep => some ([.deep], Δ3)
      | .shal | .frz => some ([.shal], Δ3)
      | _ => none
  | .catL im a b, Δ => (tyE sg a Δ).bind fun (ma, Δ1) => (tyE sg b Δ1).bind fun (mb, Δ2) => (one? ma).bind fun x => (one? mb).bind fun y =>
      if im = true then some ([.deep], Δ2) else match x, y with
      | .deep, .deep => some ([.deep], Δ2)
      | .shal, .shal | .shal, .frz | .frz, .shal | .frz, .frz => some ([.shal], Δ2)
      | _, _ => none
  | .catT a b, Δ => (tyE sg a Δ).bind fun (ma, Δ1) => (tyE sg b Δ1).bind fun (mb, Δ2) => (one? ma).bind fun _ => (one? mb).bind fun _ => some ([.deep], Δ2)
  | .rep a n, Δ => (tyE sg a Δ).bind fun (ma, Δ1) => (tyE sg n Δ1).bind fun (mb, Δ2) => (one? ma).bind fun x => (one? mb).bind fun _ => if x = .deep then some ([.deep], Δ2) else none
  | .blt f r, Δ => (tyE sg r Δ).bind fun (ms, Δ1) => match f with
      | .toList im => if im = true then some ([.deep], Δ1) else (one? ms).bind fun x => match x with
        | .deep => some ([.deep], Δ1)
        | .shal | .frz => some ([.shal], Δ1)
        | _ => none
      | .toTup im => if im = true then some ([.deep], Δ1) else (one? ms).bind fun x => match x with
        | .deep => some ([.deep], Δ1)
        | .shal | .frz => some ([.frz], Δ1)
        | _ => none
      | _ => some ([.deep], Δ1)
  | .lc own elt tg it cond, Δ => (tyE sg it Δ).bind fun (mi, Δ1) => (one? mi).bind fun m =>
      ((tyE ⟨sg.sg, none⟩ cond (tgM tg .frz (wipeM own (Δ1.map lentM)))).bind fun (mc, _) => (tyE ⟨sg.sg, none⟩ elt (tgM tg .frz (wipeM own (Δ1.map lentM)))).bind fun (me, _) => (one? mc).bind fun _ => (one? me).bind fun x => if m ≠ .dead ∧ x = .deep then some ([.deep], Δ1) else none).or
      ((tyE ⟨sg.sg, none⟩ cond (tgM tg .frz (wipeM own (Δ1.map frzM)))).bind fun (mc, _) => (tyE ⟨sg.sg, none⟩ elt (tgM tg .frz (wipeM own (Δ1.map frzM)))).bind fun (me, _) => (one? mc).bind fun _ => (one? me).bind fun x => if m = .frz ∧ x = .frz then some ([.shal], Δ1) else none)
  | .itT a, Δ => (tyE sg a Δ).bind fun (ma, Δ1) => (one? ma).bind fun x => if x ≠ .dead then some ([x], Δ1) else none
  | .itS a, Δ => (tyE sg a Δ).bind fun (ma, Δ1) => (one? ma).bind fun _ => some ([.frz], Δ1)
  | .rng1 a, Δ | .revR a, Δ => (tyE sg a Δ).bind fun (ma, Δ1) => (one? ma).bind fun _ => some ([.frz], Δ1)
  | .rng2 a b, Δ => (tyE sg a Δ).bind fun (ma, Δ1) => (tyE sg b Δ1).bind fun (mb, Δ2) => (one? ma).bind fun _ => (one? mb).bind fun _ => some ([.frz], Δ2)
  | .zip a b, Δ => (tyE sg a Δ).bind fun (ma, Δ1) => (tyE sg b Δ1).bind fun (mb, Δ2) => (one? ma).bind fun x => (one? mb).bind fun y => if x ≠ .dead ∧ y ≠ .dead then some ([if x = .frz ∧ y = .frz then .frz else .bor], Δ2) else none
  | .enm a, Δ | .enmT a, Δ => (tyE sg a Δ).bind fun (ma, Δ1) => (one? ma).bind fun x => if x ≠ .dead then some ([if x = .frz then .frz else .bor], Δ1) else none
  | .call f r, Δ => (tyE sg r Δ).bind fun (ms, Δ1) => (sg.sg f).bind fun s => if ms.length = s.n ∧ sg.xok Δ1 = true then (if s.res = .deep ∧ ms.all (· ≠ .dead) then some ([.deep], Δ1) else none) else none
  | .attr a _ _, Δ => (tyE sg a Δ).bind fun (ma, Δ1) => (one? ma).bind fun x => if x = .dead then none else some ([x.inner], Δ1)
  | .get a k d, Δ => (tyE sg a Δ).bind fun (ma, Δ1) => (tyE sg k Δ1).bind fun (mb, Δ2) => (tyE sg d Δ2).bind fun (mc, Δ3) => (one? ma).bind fun _ => (one? mb).bind fun _ => (one? mc).bind fun _ => some ([.deep], Δ3)
  | .imm a, Δ => (tyE sg a Δ).bind fun (ma, Δ1) => (one? ma).bind fun x => if x = .dead then none else some ([.deep], Δ1)
  | .dnew, Δ => some ([.deep], Δ)
  | .dget a k, Δ | .isin _ a k, Δ | .join a k, Δ => (tyE sg a Δ).bind fun (ma, Δ1) => (tyE sg k Δ1).bind fun (mb, Δ2) => (one? ma).bind fun _ => (one? mb).bind fun _ => some ([.deep], Δ2)
  | .dictOf a, Δ | .srt a, Δ => (tyE sg a Δ).bind fun (ma, Δ1) => (one? ma).bind fun _ => some ([.deep], Δ1)
  | .lcI own elt tg keys i cond, Δ => (Δ[i]?).bind fun x => (tyE ⟨sg.sg, none⟩ cond (tgM tg .frz (wipeM own (Δ.map lentM)))).bind fun (mc, _) => (tyE ⟨sg.sg, none⟩ elt (tgM tg .frz (wipeM own (Δ.map lentM)))).bind fun (me, _) =>
      (one? mc).bind fun _ => (one? me).bind fun y => if x = .deep ∧ y = .deep then some ([.deep], Δ) else none
  | .fz a, Δ => (tyE sg a Δ).bind fun (ma, Δ1) => (one? ma).bind fun x => if x.owned = true then some ([.frz], Δ1) else none
  | .sh a, Δ => (tyE sg a Δ).bind fun (ma, Δ1) => (one? ma).bind fun x => match x with
      | .deep | .shal => some ([.shal], Δ1)
      | _ => none
def okRes (res m : M) : Bool := m.le res && decide (m ≠ .dead)
/-- some Δ': typed; its own option: none where the end is never reached -/
def tyS (sg : SigT) (res : M) : IS → List M → Option TyO
  | .nil, Δ | .doc, Δ => some (some Δ)
  | .cons s r, Δ => (tyS sg res s Δ).bind fun o => match o with
      | none => some none
      | some Δ1 => tyS sg res r Δ1
  | .set i e, Δ => (tyE sg e Δ).bind fun (ms, Δ1) => (one? ms).bind fun m => if i < Δ1.length ∧ m ≠ .dead then some (some (Δ1.set i m)) else none
  | .par i j a b, Δ => (tyE sg a Δ).bind fun (ms, Δ1) => (tyE sg b Δ1).bind fun (mt, Δ2) => (one? ms).bind fun m => (one? mt).bind fun n => if i < Δ2.length ∧ j < Δ2.length ∧ m ≠ .dead ∧ n ≠ .dead ∧ i ≠ j then some (some ((Δ2.set i m).set j n)) else none
  | .unp is e, Δ => (tyE sg e Δ).bind fun (ms, Δ1) => (one? ms).bind fun m => if is.all (· < Δ1.length) ∧ m ≠ .dead then some (some (setM is m Δ1)) else none
  | .ite c a b, Δ => (tyE sg c Δ).bind fun (ms, Δ1) => (one? ms).bind fun _ => (tyS sg res a Δ1).bind fun x => (tyS sg res b Δ1).bind fun y => match joinO x y with
      | none => some none
      | some Δ2 => if leO x Δ2 && leO y Δ2 then some (some Δ2) else none
  | .for tg it inv body, Δ => (tyE sg it Δ).bind fun (ms, Δ1) => (one? ms).bind fun m => (tyS sg res body (tgM tg m.inner inv)).bind fun o => if leO (some Δ1) inv && leO o inv && decide (m = .frz) then some (some inv) else none
  | .while c inv body, Δ => (tyE sg c inv).bind fun (ms, Δ1) => (one? ms).bind fun _ => (tyS sg res body Δ1).bind fun o => if leO (some Δ) inv && leO o inv then some (some Δ1) else none
  | .ret e, Δ => (tyE sg e Δ).bind fun (ms, _) => (one? ms).bind fun m => if okRes res m then some none else none
  | .retN, Δ => if okRes res res = true then some none else none
  | .drop e, Δ => (tyE sg e Δ).bind fun (ms, Δ1) => (one? ms).bind fun _ => some (some Δ1)
  | .app i e, Δ => (tyE sg e Δ).bind fun (ms, Δ1) => (one? ms).bind fun m => (Δ[i]?).bind fun x0 => (Δ1[i]?).bind fun x => if x0 = .dead then none else match x with
      | .deep => if m = .deep then some (some (Δ1.map killM)) else none
      | .shal => if m = .frz ∨ m = .deep then some (some (Δ1.map killM)) else none
      | _ => none
  | .setix i k e, Δ => (tyE sg e Δ).bind fun (ms, Δ1) => (tyE sg k Δ1).bind fun (mk, Δ2) => (one? ms).bind fun m => (one? mk).bind fun _ => (Δ1[i]?).bind fun x0 => (Δ2[i]?).bind fun x => if x0 = .dead then none else match x with
      | .deep => if m = .deep then some (some (Δ2.map killM)) else none
      | .shal => if m = .frz ∨ m = .deep then some (some (Δ2.map killM)) else none
      | _ => none
  | .dput i k e, Δ => (tyE sg e Δ).bind fun (ms, Δ1) => (tyE sg k Δ1).bind fun (mk, Δ2) => (one? ms).bind fun _ => (one? mk).bind fun _ => (Δ1[i]?).bind fun x0 => (Δ2[i]?).bind fun x => if x0 ≠ .dead ∧ x = .deep then some (some (Δ2.map killM)) else none
  | .appPop i j k, Δ => (tyE sg k Δ).bind fun (mk, Δ1) => (Δ[i]?).bind fun x0 => (Δ[j]?).bind fun y0 => (Δ1[i]?).bind fun x => (Δ1[j]?).bind fun y =>
      if (isNil k = false ∧ mk.length ≠ 1) ∨ i = j ∨ x0 = .dead ∨ y0 = .dead then none else match x, y with
      | .deep, .deep | .shal, .deep | .shal, .shal => some (some (Δ1.map killM))
      | _, _ => none
  | .popS j k, Δ => (tyE sg k Δ).bind fun (mk, Δ1) => (Δ[j]?).bind fun y0 => (Δ1[j]?).bind fun y =>
      if (isNil k = false ∧ mk.length ≠ 1) ∨ y0 = .dead then none else match y with
      | .deep | .shal => some (some (Δ1.map killM))
      | _ => none
  | .setPop i j k, Δ => (tyE sg k Δ).bind fun (mk, Δ1) => (Δ[j]?).bind fun y0 => (Δ1[j]?).bind fun y =>
      if (isNil k = false ∧ mk.length ≠ 1) ∨ y0 = .dead ∨ ¬ i < Δ1.length ∨ i = j then none else match y with
      | .deep => some (some ((Δ1.map killM).set i .deep))
      | .shal => some (some ((Δ1.map killM).set i .frz))
      | _ => none
  | .swap i k1 k2 e, Δ => (tyE sg e Δ).bind fun (me, Δ1) => (one? me).bind fun m => (tyE sg k1 Δ1).bind fun (mk, Δ2) => (one? mk).bind fun _ => (tyE sg k2 (Δ2.map killM)).bind fun (ml, Δ3) => (one? ml).bind fun _ =>
      (Δ1[i]?).bind fun x0 => (Δ2[i]?).bind fun x => (Δ3[i]?).bind fun y => if x0 = .dead ∨ x ≠ y then none else match x, m with
      | .deep, .deep | .shal, .deep | .shal, .frz => some (some (Δ3.map killM))
      | _, _ => none
  | .never, _ => some none
  | .appEach i t _, Δ => (Δ[i]?).bind fun x => if x = .deep ∧ i ≠ t ∧ t < Δ.length then some (some ((Δ.map killM).set t .dead)) else none
  | .raise _, Δ => if sg.xok Δ = true then some none else none
  | .raiseF _ r, Δ => (tyE sg r Δ).bind fun (ms, Δ1) => if sg.xok Δ1 = true then some none else none
  | .appT e a, Δ => (tyE sg e Δ).bind fun (ms, Δ1) => (tyE sg a Δ1).bind fun (mt, Δ2) => (one? ms).bind fun m => (one? mt).bind fun n => if (m = .deep ∨ m = .shal) ∧ n ≠ .dead then some (some (Δ2.map killM)) else none
  | .tryx i j Δx body, Δ => (tyS ⟨sg.sg, some Δx⟩ res body Δ).bind fun x => if i < Δx.length ∧ j < Δx.length ∧ i ≠ j then (match joinO x (some ((Δx.set i .dead).set j .frz)) with
      | none => none
      | some Δ2 => if leO x Δ2 && leO (some ((Δx.set i .dead).set j .frz)) Δ2 then some (some Δ2) else none) else none
  | .aug i _ e, Δ => (tyE sg e Δ).bind fun (ms, Δ1) => (one? ms).bind fun _ => match Δ[i]? with
      | some m => if m = .dead then none else some (some (Δ1.set i .deep))
      | none => none
end FM

set_option Elab.async false
set_option linter.all false
set_option maxRecDepth 100000
namespace FM
open PySem L2

/-! ## slots -/
def slots : List M → Dat → List (Option V) → List En
  | m :: Δ, d :: ρ, v :: σ => ⟨m, d, v⟩ :: slots Δ ρ σ
  | _, _, _ => []
theorem slots_get : ∀ {Δ : List M} {ρ : Dat} {σ : List (Option V)} {i : Nat} {m : M} {d : D} {v : Option V}, Δ[i]? = some m → ρ[i]? = some d → σ[i]? = some v → (slots Δ ρ σ)[i]? = some ⟨m, d, v⟩
  | [], _, _, _, _, _, _, h, _, _ => by simp at h
  | _ :: _, [], _, _, _, _, _, _, h, _ => by simp at h
  | _ :: _, _ :: _, [], _, _, _, _, _, _, h => by simp at h
  | _ :: _, _ :: _, _ :: _, 0, _, _, _, h1, h2, h3 => by
    simp at h1 h2 h3
    subst h1 h2 h3; rfl
  | _ :: Δ, _ :: ρ, _ :: σ, i + 1, _, _, _, h1, h2, h3 => by
    show (slots Δ ρ σ)[i]? = _
    exact slots_get (by simpa using h1) (by simpa using h2) (by simpa using h3)
theorem slots_set : ∀ {Δ : List M} {ρ : Dat} {σ : List (Option V)} {i : Nat} {m : M} {d : D} {v : Option V}, Δ.length = σ.length → ρ.length = σ.length → (slots Δ ρ σ).set i ⟨m, d, v⟩ = slots (Δ.set i m) (ρ.set i d) (σ.set i v)
  | [], [], [], _, _, _, _, _, _ => rfl
  | [], _, _ :: _, _, _, _, _, h, _ => by simp at h
  | _ :: _, _, [], _, _, _, _, h, _ => by simp at h
  | _ :: _, [], _ :: _, _, _, _, _, _, h => by simp at h
  | [], _ :: _, [], _, _, _, _, _, h => by simp at h
  | _ :: _, _ :: _, _ :: _, 0, _, _, _, _, _ => rfl
  | a :: Δ, b :: ρ, x :: σ, i + 1, m, d, v, h1, h2 => by
    show ⟨a, b, x⟩ :: (slots Δ ρ σ).set i ⟨m, d, v⟩ = ⟨a, b, x⟩ :: slots (Δ.set i m) (ρ.set i d) (σ.set i v)
    rw [slots_set (by simpa using h1) (by simpa using h2)]
theorem slots_len : ∀ {Δ : List M} {ρ : Dat} {σ : List (Option V)}, Δ.length = σ.length → ρ.length = σ.length → (slots Δ ρ σ).length = σ.length
  | [], [], [], _, _ => rfl
  | [], _, _ :: _, h, _ => by simp at h
  | _ :: _, _, [], h, _ => by simp at h
  | _ :: _, [], _ :: _, _, h => by simp at h
  | [], _ :: _, [], _, h => by simp at h
  | a :: Δ, b :: ρ, x :: σ, h1, h2 => by
    show (slots Δ ρ σ).length + 1 = σ.length + 1
    rw [slots_len (by simpa using h1) (by simpa using h2)]
theorem slots_kill : ∀ {Δ : List M} {ρ : Dat} {σ : List (Option V)}, (slots Δ ρ σ).map En.kill = slots (Δ.map killM) ρ σ
  | [], _, _ => rfl
  | _ :: _, [], _ => rfl
  | _ :: _, _ :: _, [] => rfl
  | a :: Δ, b :: ρ, x :: σ => by
    show _ :: _ = _ :: _
    rw [slots_kill]
    cases a <;> rfl

/-! ## the state of a def -/
/-- T: what is held on the way, ahead of the slots -/
structure SA (c : Cfg) (H0 B H : Hp) (Δ : List M) (ρ : Dat) (σ : List (Option V)) (T fr : List En) : Prop where
  ha : HA c H0 B H (T ++ slots Δ ρ σ) fr
  l1 : Δ.length = σ.length
  l2 : ρ.length = σ.length
section
variable {c : Cfg} {H0 B B' H H' : Hp} {Δ Δ' : List M} {ρ ρ' : Dat} {σ σ' : List (Option V)} {T T' fr : List En} {e : En} {m : M} {d : D} {v : V} {ov : Option V} {i : Nat}
theorem SA.grow (h : SA c H0 B H Δ ρ σ T fr) (g : Ex H H') : SA c H0 B H' Δ ρ σ T fr := ⟨h.ha.grow g, h.l1, h.l2⟩
theorem SA.drop (h : SA c H0 B H Δ ρ σ (e :: T) fr) : SA c H0 B H Δ ρ σ T fr := ⟨h.ha.drop, h.l1, h.l2⟩
theorem SA.perm (h : SA c H0 B H Δ ρ σ T fr) (p : T.Perm T') : SA c H0 B H Δ ρ σ T' fr := ⟨h.ha.perm (p.append_right _), h.l1, h.l2⟩
theorem SA.drops : ∀ {T' : List En}, SA c H0 B H Δ ρ σ (T' ++ T) fr → SA c H0 B H Δ ρ σ T fr
  | [], h => h
  | _ :: T', h => SA.drops (T' := T') (SA.drop h)
theorem HA.scal {es : List En} (h : HA c H0 B H es fr) (hm : m ≠ .dead) (r : Rep c B H d m v []) : HA c H0 B H (⟨m, d, some v⟩ :: es) fr := by
  obtain ⟨L1, L2, h1, h2, nd, f0, fb⟩ := h.ex
  exact ⟨⟨L1, L2, ⟨[], L1, rfl, (EnR.some_iff hm).mpr r, h1⟩, h2, nd, f0, fb⟩, h.bh, h.h0, h.nb⟩
theorem SA.scal (h : SA c H0 B H Δ ρ σ T fr) (hm : m ≠ .dead) (r : Rep c B H d m v []) : SA c H0 B H Δ ρ σ (⟨m, d, some v⟩ :: T) fr := ⟨h.ha.scal hm r, h.l1, h.l2⟩
theorem rep_int {x : Int} : Rep c B H (.int x) m (.int x) [] := by unfold Rep; exact ⟨rfl, rfl⟩
theorem rep_bl {x : Bool} : Rep c B H (.bl x) m (.bl x) [] := by unfold Rep; exact ⟨rfl, rfl⟩
theorem rep_str {x : Str} : Rep c B H (.str x) m (.str x) [] := by unfold Rep; exact ⟨rfl, rfl⟩
theorem rep_non : Rep c B H .non m .non [] := by unfold Rep; exact ⟨rfl, rfl⟩
theorem SA.rep (h : SA c H0 B H Δ ρ σ (⟨m, d, ov⟩ :: T) fr) (hm : m ≠ .dead) (hd : d ≠ .hole) : ∃ v L, ov = some v ∧ Rep c B H d m v L := h.ha.rep hm hd
theorem SA.isInt {x : Int} (h : SA c H0 B H Δ ρ σ (⟨m, .int x, some v⟩ :: T) fr) (hm : m ≠ .dead) : v = .int x := by
  obtain ⟨w, L, e, r⟩ := h.rep hm (fun z => nomatch z)
  cases e
  unfold Rep at r; exact r.2
theorem SA.isBl {x : Bool} (h : SA c H0 B H Δ ρ σ (⟨m, .bl x, some v⟩ :: T) fr) (hm : m ≠ .dead) : v = .bl x := by
  obtain ⟨w, L, e, r⟩ := h.rep hm (fun z => nomatch z)
  cases e
  unfold Rep at r; exact r.2
theorem SA.isStr {x : Str} (h : SA c H0 B H Δ ρ σ (⟨m, .str x, some v⟩ :: T) fr) (hm : m ≠ .dead) : v = .str x := by
  obtain ⟨w, L, e, r⟩ := h.rep hm (fun z => nomatch z)
  cases e
  unfold Rep at r; exact r.2
theorem SA.isNon (h : SA c H0 B H Δ ρ σ (⟨m, .non, some v⟩ :: T) fr) (hm : m ≠ .dead) : v = .non := by
  obtain ⟨w, L, e, r⟩ := h.rep hm (fun z => nomatch z)
  cases e
  unfold Rep at r; exact r.2
/-- slot i taken out -/
theorem SA.takeOut (h : SA c H0 B H Δ ρ σ T fr) (hm : Δ[i]? = some m) (hd : ρ[i]? = some d) (hv : σ[i]? = some ov) (d' : D) : SA c H0 B H (Δ.set i .dead) (ρ.set i d') σ (⟨m, d, ov⟩ :: T) fr := by
  have q := (h.ha.perm List.perm_append_comm).addDead d' ov
  have hi := slots_get hm hd hv
  have p := (perm_at hi (⟨.dead, d', ov⟩ : En)).append_right T
  have q2 := HA.perm q p
  rw [slots_set h.l1 h.l2] at q2
  have es : σ.set i ov = σ := by
    obtain ⟨hlt, e⟩ := List.getElem?_eq_some_iff.mp hv
    rw [← e, List.set_getElem_self]
  rw [es] at q2
  refine ⟨HA.perm q2 ?_, by simpa using h.l1, by simpa using h.l2⟩
  show List.Perm (⟨m, d, ov⟩ :: (slots (Δ.set i .dead) (ρ.set i d') σ ++ T)) (⟨m, d, ov⟩ :: (T ++ slots (Δ.set i .dead) (ρ.set i d') σ))
  exact List.perm_append_comm.cons _
/-- .. and put -/
theorem SA.putIn (h : SA c H0 B H Δ ρ σ (⟨m, d, ov⟩ :: T) fr) (hi : i < σ.length) : SA c H0 B H (Δ.set i m) (ρ.set i d) (σ.set i ov) T fr := by
  have q : HA c H0 B H ((⟨m, d, ov⟩ :: slots Δ ρ σ) ++ T) fr := HA.perm h.ha ((List.Perm.refl _).trans (List.perm_append_comm.cons _))
  have hi' : i < (slots Δ ρ σ).length := by rw [slots_len h.l1 h.l2]; exact hi
  have p := (perm_at (List.getElem?_eq_getElem hi') (⟨m, d, ov⟩ : En)).append_right T
  have q2 := (HA.perm q p).drop
  rw [slots_set h.l1 h.l2] at q2
  exact ⟨HA.perm q2 List.perm_append_comm, by simpa using h.l1, by simpa using h.l2⟩
theorem SA.kill (h : SA c H0 B H Δ ρ σ T fr) : SA c H0 B H (Δ.map killM) ρ σ (T.map En.kill) fr := by
  have q := h.ha.kill
  rw [List.map_append, slots_kill] at q
  exact ⟨q, by simpa using h.l1, h.l2⟩
theorem SA.freeze (h : SA c H0 B H Δ ρ σ (⟨m, d, ov⟩ :: T) fr) (hm : m.owned = true) : ∃ B', Ex B B' ∧ SA c H0 B' H Δ ρ σ (⟨.frz, d, ov⟩ :: T) fr := by
  obtain ⟨B', b, q⟩ := HA.freeze (es := T ++ slots Δ ρ σ) h.ha (by rintro rfl; cases hm) (by rintro rfl; cases hm)
  exact ⟨B', b, q, h.l1, h.l2⟩
theorem SA.dup (h : SA c H0 B H Δ ρ σ (e :: T) fr) (u : e.m.un = true) : SA c H0 B H Δ ρ σ (e :: e :: T) fr := ⟨HA.dup (es := T ++ slots Δ ρ σ) h.ha u, h.l1, h.l2⟩
theorem SA.borrow (h : SA c H0 B H Δ ρ σ (⟨m, d, ov⟩ :: T) fr) (hm : m ≠ .dead) : SA c H0 B H Δ ρ σ (⟨.bor, d, ov⟩ :: ⟨m, d, ov⟩ :: T) fr := ⟨HA.borrow (es := T ++ slots Δ ρ σ) h.ha hm, h.l1, h.l2⟩
end

/-! ## exceptions -/
def ExcR (c : Cfg) (B H : Hp) (cls : Value) (dx : Option Addr) (x : D) : Prop :=
  ∃ C ns ds a fs, x = .exc C ns ds ∧ isExc C = true ∧ cls = .ref a ∧ c.cls C = some a ∧ fs.map (·.1) = ns ∧ Reps c B H ds .deep (fs.map (·.2)) [] ∧ XCell B dx ns fs
def XC (c : Cfg) (tc : SigT) (W : WX) (Xd : XPost) (H0 B H : Hp) (σ : List (Option V)) (T fr : List En) : Prop :=
  ∀ x ρ', Xd x ρ' → ∀ Δx cls dx B' H', tc.xok Δx = true → Ex B B' → Ex H H' → ExcR c B' H' cls dx x → SA c H0 B' H' Δx ρ' σ T fr → W cls dx σ H'
theorem XC.step {c : Cfg} {tc : SigT} {W : WX} {Xd : XPost} {H0 B H B1 H1 : Hp} {σ : List (Option V)} {T T' fr : List En} (h : XC c tc W Xd H0 B H σ T fr) (b : Ex B B1) (g : Ex H H1) : XC c tc W Xd H0 B1 H1 σ (T' ++ T) fr :=
  fun x ρ' hx Δx cls dx B' H' hk b' g' er sa => h x ρ' hx Δx cls dx B' H' hk (b.tr b') (g.tr g') er sa.drops
theorem XC.step1 {c : Cfg} {tc : SigT} {W : WX} {Xd : XPost} {H0 B H B1 H1 : Hp} {σ : List (Option V)} {T fr : List En} {e : En} (h : XC c tc W Xd H0 B H σ T fr) (b : Ex B B1) (g : Ex H H1) : XC c tc W Xd H0 B1 H1 σ (e :: T) fr := XC.step (T' := [e]) h b g

/-! ## what a def promises -/
def entsM : List M → List D → List V → List En
  | m :: ms, d :: ds, v :: vs => ⟨m, d, some v⟩ :: entsM ms ds vs
  | _, _, _ => []
def spOf (c : Cfg) (sem : FSem) (s : Sig) : Sp := fun vs H Q E => ∃ B ds fr Qd Xd, vs.length = s.n ∧ ds.length = s.n ∧ sem ds Qd Xd ∧ HA c H B H (ents .frz ds vs) fr ∧
  (∀ d, Qd d → ∀ v B' H', Ex B B' → Ex H H' → HA c H B' H' [⟨s.res, d, some v⟩] fr → Q v H') ∧
  (∀ x, Xd x → ∀ cls dx B' H', Ex B B' → Ex H H' → ExcR c B' H' cls dx x → HA c H B' H' [] fr → E cls dx H')

/-! ## where one stands -/
structure MC where
  N : List Str
  sc : Scope
  st : Str → Bool
  /-- own classes (and ValueError) that isinstance asks for -/
  ic : Str → Bool
  /-- own classes that are raised -/
  rz : Str → Bool
  /-- a def's own context, and one that may catch -/
  df : Bool
  tr : Bool
  /-- whole numbers that the module names -/
  gl : Str → Option Int
/-- what an own class must say, so that isinstance asks its things rightly -/
def InsC (K : PySem.W.Frag) (C : Addr) : Prop := ∀ (H : Hp) (p dx : Addr) (fs : List (Str × V)), H p = some (.ins C dx fs) → TyOf K H (.ref p) (.ref C)
def bts : List String := ["NoneType"]
structure Kt (K : PySem.W.Frag) (mg : Str → Option Value) (c : Cfg) (T : Str) (v : V) (u : Value) : Prop where
  cv : ClsV v u
  mg : mg T = some u ∨ (mg T = none ∧ bootBuiltins T = some u ∧ T ≠ "__name__")
  bt : ∀ s ∈ bts, PySem.W.kitOne K (.type s) u = some false
  own : ∀ C a, c.cls C = some a → PySem.W.kitOne K (.ref a) u = some (subX C T)
  ex : ∀ C a, c.cls C = some a → isExc C = true → ExcC K a
  ins : ∀ C a, c.cls C = some a → isExc C = false → InsC K a
structure Ctx (X : Cx) (c : Cfg) (Ω : Str → FSem) (tc : SigT) (mc : MC) (W : WX) : Prop where
  n : X.N = mc.N
  s : X.env.scope = mc.sc
  nd : X.N.Nodup
  calm : X.calm = true
  sto : ∀ x, mc.st x = true → Loc X.env.scope x ∧ (X.fn x = true ∨ X.env.scope.names.lookup x = some .local)
  tk : Takes X W
  pw : PassesOwn (model X.prog X.w) X.A X.env X.xe
  k : c.K = X.K
  rm : Room 0 X.A
  fn : ∀ f s, tc.sg f = some s → ∃ a fd ps k, X.mg f = some (.ref a) ∧ PySem.W.keepIn X.K (.ref a) = true ∧ Binds X.K fd ps [] ∧ FnOk X.prog X.w X.K X.mg X.base (L2.CX X.prog X.w) k a fd ps (spOf c (Ω f) s) ∧ Room k X.A
  rz : ∀ x, mc.rz x = true → ∃ a B newId initId bmB, c.cls x = some a ∧ X.mg x = some (.ref a) ∧ ExcBaseFacts B newId initId bmB ∧ PySem.W.excIn X.K a bmB newId = true ∧ PySem.W.keepIn X.K (.ref a) = true ∧
    PySem.W.subIn X.K (.ref a) (.type "BaseException") = some true ∧ PySem.W.typeIn X.K (.ref a) = some (.type "type")
  kt : ∀ T, mc.ic T = true → ∃ v u, Kt X.K X.mg c T v u
  gl : ∀ x n, mc.gl x = some n → ∃ t, X.mg x = some (.int n t)
  df : mc.df = true → X.stack = X.env :: X.outer ∧ X.env.frame = some X.env.locals ∧ X.ex = []
  tr : mc.tr = true → ∃ F, X.mg "FlatError" = some (.ref F) ∧ ∀ C a, c.cls C = some a → isExc C = true → PySem.W.exmOne X.K (.ref a) (.ref F) = some true
  bt : ∀ x, x ∈ (["len", "abs", "min", "max", "sum", "any", "all", "int", "str", "list", "tuple", "range", "zip", "enumerate", "reversed", "isinstance", "sorted", "dict", "set", "bool", "ValueError"] : List Str) → X.mg x = none

def tE (c : Cfg) (Ω : Str → FSem) (tc : SigT) (W : WX) (ie : IE) : TE := fun σ H Q => ∃ H0 B Δ ρ T fr m Δ' Qd Xd,
  SA c H0 B H Δ ρ σ T fr ∧ tyE tc ie Δ = some ([m], Δ') ∧ wpE Ω ie ρ Qd Xd ∧ XC c tc W Xd H0 B H σ T fr ∧
  ∀ d ρ', Qd d ρ' → ∀ v B' H', Ex B B' → Ex H H' → SA c H0 B' H' Δ' ρ' σ (⟨m, d, some v⟩ :: T) fr → m ≠ .dead → Q v H'
def tAr (c : Cfg) (Ω : Str → FSem) (tc : SigT) (W : WX) (ie : IE) : TA := fun σ H Q => ∃ H0 B Δ ρ T fr ms Δ', ∃ (Qd : Dat → Dat → Prop) (Xd : XPost),
  SA c H0 B H Δ ρ σ T fr ∧ tyE tc ie Δ = some (ms, Δ') ∧ wpE Ω ie ρ (fun x ρ' => asT x fun ds => Qd ds ρ') Xd ∧ XC c tc W Xd H0 B H σ T fr ∧
  ∀ ds ρ', Qd ds ρ' → ∀ vs B' H', Ex B B' → Ex H H' → SA c H0 B' H' Δ' ρ' σ (entsM ms ds vs ++ T) fr → vs.length = ms.length → ds.length = ms.length → (∀ m ∈ ms, m ≠ .dead) → Q vs H'
def tTe (c : Cfg) (Ω : Str → FSem) (tc : SigT) (W : WX) (ie : IE) : TT := fun σ H Q => ∃ H0 B Δ ρ T fr m Δ', ∃ (Qd : Bool → Dat → Prop) (Xd : XPost),
  SA c H0 B H Δ ρ σ T fr ∧ tyE tc ie Δ = some ([m], Δ') ∧ wpE Ω ie ρ (fun x ρ' => asB x fun k => Qd k ρ') Xd ∧ XC c tc W Xd H0 B H σ T fr ∧
  ∀ k ρ', Qd k ρ' → ∀ B' H', Ex B B' → Ex H H' → SA c H0 B' H' Δ' ρ' σ T fr → Q k H'
theorem PE.imp {X : Cx} {e : Expr} {t t' : TE} (h : PE X e t) (i : ∀ σ H Q, t' σ H Q → t σ H Q) : PE X e t' := ⟨fun pins s σ H Q I q => h.run pins s σ H Q I (i σ H Q q)⟩
theorem PA.imp {X : Cx} {e : List Expr} {t t' : TA} (h : PA X e t) (i : ∀ σ H Q, t' σ H Q → t σ H Q) : PA X e t' := ⟨fun pos pins s σ H Q I q => h.run pos pins s σ H Q I (i σ H Q q)⟩
theorem PT.imp {X : Cx} {e : Expr} {t t' : TT} (h : PT X e t) (i : ∀ σ H Q, t' σ H Q → t σ H Q) : PT X e t' := ⟨fun pins s σ H Q I q => h.run pins s σ H Q I (i σ H Q q)⟩
theorem PS.imp {X : Cx} {e : Stmt} {t t' : TS} (h : PS X e t) (i : ∀ D σ H, t' D σ H → t D σ H) : PS X e t' := ⟨fun pins s σ H D I q => h.run pins s σ H D I (i D σ H q)⟩
theorem PSs.imp {X : Cx} {e : List Stmt} {t t' : TS} (h : PSs X e t) (i : ∀ D σ H, t' D σ H → t D σ H) : PSs X e t' := ⟨fun pins s σ H D I q => h.run pins s σ H D I (i D σ H q)⟩
end FM

set_option Elab.async false
set_option linter.all false
set_option maxRecDepth 100000
namespace FM
open PySem L2
/-! ## which text a term stands for -/
def notStar : Expr → Bool
  | .Starred _ _ => false
  | _ => true
def notSlice : Expr → Bool
  | .Slice _ _ _ _ => false
  | _ => true
def notSet : Expr → Bool
  | .Set _ _ _ => false
  | _ => true
def notComp : Expr → Bool
  | .ListComp _ _ _ _ | .SetComp _ _ _ _ | .DictComp _ _ _ _ _ => false
  | _ => true
def attrOk : Expr → Bool
  | .Call _ (_ :: _) _ _ => true
  | .Call _ _ _ _ => false
  | _ => true
/-- what may be asked as a test -/
def tst : IE → Bool
  | .cmp _ _ _ | .eq _ _ _ | .isN _ _ | .bl _ | .var _ | .bor _ | .blt _ _ | .call _ _ | .isi _ _ | .ix _ _ | .gint _ _ | .isin _ _ _ => true
  | .not a => tst a
  | .and a b | .or a b => tst a && tst b
  | _ => false
/-- an expression whose test is its value's truth -/
def plainT : Expr → Bool
  | .Name _ _ | .Call _ _ _ _ | .Constant _ _ _ | .Attribute _ _ _ | .Subscript _ _ _ => true
  | _ => false
theorem star_of {e : Expr} {es : List Expr} {env : Env} (h : notStar e = true) : starEach (e :: es) env = (false, eval e env) :: starEach es env := by
  cases e <;> first | rfl | cases h
theorem noStars {es : List Expr} {env : Env} {pos : Pos} (h : es.all notStar = true) : (backTo pos (starEach es env)).any (·.1) = false := by
  induction es with
  | nil => rfl
  | cons e es ih =>
    rw [List.all_cons] at h
    rw [Bool.and_eq_true] at h
    rw [star_of h.1]
    show (false || (backTo pos (starEach es env)).any (·.1)) = false
    rw [ih h.2]; rfl
theorem plainIx_of {b : Expr} (h : notSlice b = true) : PlainIx b := by
  intro o i
  cases b <;> first | rfl | cases h
theorem folded_of {e : Expr} {env : Env} (h : notSet e = true) : ∀ x, foldedSetIterable e env x = pure x := by
  intro x
  cases e <;> first | rfl | cases h
theorem attrBase_of {e : Expr} {f : Str} {env : Env} (h : attrOk e = true) : attributeBase e f env (eval e env) = eval e env := by
  cases e <;> first
    | rfl
    | (rename_i fn args kw pos
       cases args with
       | nil => cases h
       | cons a as => cases fn <;> rfl)
theorem isTrue_of {e : Expr} {env : Env} (h : plainT e = true) : ∀ whole, isTrue e env whole = (do let v ← whole; standAt e.pos; holding [v] (truthy v)) := by
  intro whole
  cases e <;> first | rfl | cases h
theorem swaps_of {e : Expr} {t : Option Expr} {l : Nat} {env : Env} (h : notComp e = true) : swapsWith e t l env = pure false := by
  cases e <;> first | rfl | cases h
def visB (sc : Scope) (x : Str) : Bool := match sc.names.lookup x with
  | some .local | some .cell | some .free => true
  | _ => false
theorem vis_of {sc : Scope} {x : Str} (h : visB sc x = true) : Vis sc x := by
  unfold visB at h
  unfold Vis
  split at h
  · exact .inl (by assumption)
  · exact .inr (.inl (by assumption))
  · exact .inr (.inr (by assumption))
  · cases h
def plainName (x : Str) : Bool := !(x == ("__debug__" : Str)) && !(x == ("__classdict__" : Str))
theorem plainName_of {x : Str} (h : plainName x = true) : (x == ("__debug__" : Str)) = false ∧ (x == ("__classdict__" : Str)) = false := by
  unfold plainName at h
  simpa using h
def nameOk (mc : MC) (i : Nat) (x : Str) : Bool := decide (mc.N[i]? = some x) && visB mc.sc x && plainName x
def globOk (mc : MC) (x : Str) : Bool := decide (mc.sc.names.lookup x = some .globalImplicit) && plainName x
def stoOk (mc : MC) (i : Nat) (x : Str) : Bool := decide (mc.N[i]? = some x) && mc.st x
def opOf : BOp → Operator
  | .add => .Add | .sub => .Sub | .mul => .Mult | .fdiv => .FloorDiv | .mod => .Mod | .pow => .Pow
def cmpOf : COp → CmpOp
  | .lt => .Lt | .le => .LtE | .gt => .Gt | .ge => .GtE
def BF.nm : BF → Str
  | .len => "len" | .abs => "abs" | .min2 => "min" | .max2 => "max" | .maxL => "max" | .sum => "sum" | .any => "any" | .all => "all"
  | .toInt => "int" | .toStr => "str" | .toList _ => "list" | .toTup _ => "tuple"
def tyName : Ty → Str
  | .int => "int" | .bool => "bool" | .list => "list" | .tuple => "tuple" | .str => "str" | .own C => C
def icOk (mc : MC) : Ty → Bool
  | .own C => mc.ic C
  | _ => true
/-- the context within a comprehension -/
def MC.blk (mc : MC) (scope : Scope) : MC where
  ic := mc.ic
  rz := mc.rz
  df := false
  tr := mc.tr
  gl := mc.gl
  N := mc.N
  sc := L2.relS scope mc.sc
  st := fun x => decide (scope.names.lookup x = some .local) || decide (scope.names.lookup x = some .cell)
def matchTs (mc : MC) : List Nat → List Expr → Bool
  | [], [] => true
  | i :: is, .Name x _ :: es => stoOk mc i x && matchTs mc is es
  | _, _ => false
def matchTg (mc : MC) : Tg → Expr → Bool
  | .one i, .Name x _ => stoOk mc i x
  | .many is, .Tuple es _ _ => matchTs mc is es
  | _, _ => false
def isTuple : Expr → Bool
  | .Tuple _ _ _ => true
  | _ => false
def tgIn (own : List (Str × Nat)) : Tg → Bool
  | .one i => (own.map (·.2)).contains i
  | .many is => is.all fun i => (own.map (·.2)).contains i
def optE (n : Bool) (f : Expr → Bool) (o : Option Expr) : Bool := match o with
  | none => n
  | some x => !n && f x
mutual
/-- f: what a for walks is asked (t: its target) -/
def matchX (mc : MC) : IE → Bool → Expr → Expr → Bool
  | .int i, _, _, e => match e with
    | .Constant (.int j) _ _ => decide (i = j)
    | _ => false
  | .bl b, _, _, e => match e with
    | .Constant (.bool c) _ _ => decide (b = c)
    | _ => false
  | .str s, _, _, e => match e with
    | .Constant (.str t) _ _ => decide (s = t)
    | _ => false
  | .non, _, _, e => match e with
    | .Constant .none _ _ => true
    | _ => false
  | .var i, _, _, e | .bor i, _, _, e | .mv i, _, _, e => match e with
    | .Name x _ => nameOk mc i x
    | _ => false
  | .gint x n, _, _, e => match e with
    | .Name y _ => decide (y = x) && globOk mc y && decide (mc.gl y = some n)
    | _ => false
  | .lrng1 a, _, _, e => match e with
    | .Call (.Name x _) [.Call (.Name z _) [y] [] _] [] _ => decide (x = ("list" : Str)) && globOk mc x && decide (z = ("range" : Str)) && globOk mc z && notStar y && matchX mc a false y y
    | _ => false
  | .bin o a b, _, _, e => match e with
    | .BinOp l op r _ => decide (op = opOf o) && matchX mc a false l l && matchX mc b false r r
    | _ => false
  | .neg a, _, _, e => match e with
    | .UnaryOp .USub x _ => matchX mc a false x x
    | _ => false
  | .not a, _, _, e => match e with
    | .UnaryOp .Not x _ => matchX mc a false x x
    | _ => false
  | .and a b, _, _, e => match e with
    | .BoolOp .And (x :: y :: rest) pos => matchX mc a false x x && (if rest.isEmpty then matchX mc b false y y else matchX mc b false (.BoolOp .And (y :: rest) pos) (.BoolOp .And (y :: rest) pos))
    | _ => false
  | .or a b, _, _, e => match e with
    | .BoolOp .Or (x :: y :: rest) pos => matchX mc a false x x && (if rest.isEmpty then matchX mc b false y y else matchX mc b false (.BoolOp .Or (y :: rest) pos) (.BoolOp .Or (y :: rest) pos))
    | _ => false
  | .ite c a b, _, _, e => match e with
    | .IfExp t x y _ => tst c && matchX mc c false t t && matchX mc a false x x && matchX mc b false y y
    | _ => false
  | .cmp o a b, _, _, e => match e with
    | .Compare l [op] [r] _ => decide (op = cmpOf o) && matchX mc a false l l && matchX mc b false r r
    | _ => false
  | .eq neg a b, _, _, e => match e with
    | .Compare l [op] [r] _ => decide (op = if neg = true then .NotEq else .Eq) && matchX mc a false l l && matchX mc b false r r
    | _ => false
  | .isN neg a, _, _, e => match e with
    | .Compare l [op] [.Constant .none _ _] _ => decide (op = if neg = true then .IsNot else .Is) && matchX mc a false l l
    | _ => false
  | .lst r, _, _, e => match e with
    | .List es _ => matchA mc r es
    | _ => false
  | .tup r, _, _, e => match e with
    | .Tuple es _ _ => matchA mc r es
    | _ => false
  | .ix a i, _, _, e => match e with
    | .Subscript x s _ => notSlice s && matchX mc a false x x && matchX mc i false s s
    | _ => false
  | .slc _ a lo hi, _, _, e => match e with
    | .Subscript x (.Slice l h none _) _ => matchX mc a false x x && optE (isNil lo) (fun z => matchX mc lo false z z) l && optE (isNil hi) (fun z => matchX mc hi false z z) h
    | _ => false
  | .catL _ a b, _, _, e | .catT a b, _, _, e => match e with
    | .BinOp l .Add r _ => matchX mc a false l l && matchX mc b false r r
    | _ => false
  | .rep a n, _, _, e => match e with
    | .BinOp l .Mult r _ => matchX mc a false l l && matchX mc n false r r
    | _ => false
  | .blt f r, _, _, e => match e with
    | .Call (.Name x _) (y :: ys) [] _ => decide (x = f.nm) && globOk mc x && matchA mc r (y :: ys)
    | _ => false
  | .lc own elt tg it cond, _, _, e => match e with
    | .ListComp x [⟨t, i, ifs, 0⟩] scope _ => blkC mc.N mc.sc scope own && tgIn own tg && notSet i && matchX mc it true t i && matchTg (mc.blk scope) tg t && matchX (mc.blk scope) elt false x x && tst cond && (match ifs with
        | [] => (match cond with | .bl true => true | _ => false)
        | [y] => matchX (mc.blk scope) cond false y y
        | _ => false)
    | _ => false
  | .call f r, _, _, e => match e with
    | .Call (.Name x _) (y :: ys) [] _ => decide (x = f) && globOk mc x && matchA mc r (y :: ys)
    | _ => false
  | .isi a T, _, _, e => match e with
    | .Call (.Name x _) [y, .Name t _] [] _ => decide (x = ("isinstance" : Str)) && globOk mc x && decide (t = tyName T) && globOk mc t && icOk mc T && notStar y && matchX mc a false y y
    | _ => false
  | .imm a, _, _, e | .fz a, _, _, e | .sh a, _, _, e => matchX mc a false e e
  | .dnew, _, _, e => match e with
    | .Dict [] [] _ => true
    | _ => false
  | .dget a k, _, _, e => match e with
    | .Subscript x s _ => notSlice s && matchX mc a false x x && matchX mc k false s s
    | _ => false
  | .get a k d, _, _, e => match e with
    | .Call (.Attribute v f apos) [x, y] [] cpos => decide (f = ("get" : Str)) && attrOk v && notStar x && notStar y && matchX mc a false v v && matchX mc k false x x && matchX mc d false y y && apos.endLine == cpos.line
    | _ => false
  | .dictOf a, _, _, e => match e with
    | .Call (.Name x _) [y] [] _ => decide (x = ("dict" : Str)) && globOk mc x && notStar y && matchX mc a false y y
    | _ => false
  | .lcI own elt tg keys i cond, _, _, e => match e with
    | .ListComp x [⟨t, it, ifs, 0⟩] scope _ => blkC mc.N mc.sc scope own && tgIn own tg && (match keys, it with
        | true, .Name y _ => nameOk mc i y
        | false, .Call (.Attribute (.Name y _) f apos) [] [] cpos => isTuple t && nameOk mc i y && decide (f = ("items" : Str)) && apos.endLine == cpos.line
        | _, _ => false) && matchTg (mc.blk scope) tg t && matchX (mc.blk scope) elt false x x && tst cond && (match ifs with
        | [] => (match cond with | .bl true => true | _ => false)
        | [y] => matchX (mc.blk scope) cond false y y
        | _ => false)
    | _ => false
  | .srt a, _, _, e => match e with
    | .Call (.Name x _) [y] [] _ => decide (x = ("sorted" : Str)) && globOk mc x && notStar y && matchX mc a false y y
    | _ => false
  | .isin neg a b, _, _, e => match e with
    | .Compare l [op] [r] _ => decide (op = if neg = true then .NotIn else .In) && matchX mc a false l l && matchX mc b false r r && !(behindInMarks op r)
    | _ => false
  | .join s a, _, _, e => match e with
    | .Call (.Attribute v f apos) [x] [] cpos => decide (f = ("join" : Str)) && attrOk v && notStar x && matchX mc s false v v && matchX mc a false x x && apos.endLine == cpos.line
    | _ => false
  | .itT a, f, _, e | .itS a, f, _, e => f && matchX mc a false e e
  | .rng1 a, f, _, e => match f, e with
    | true, .Call (.Name x _) [y] [] _ => decide (x = ("range" : Str)) && globOk mc x && notStar y && matchX mc a false y y
    | _, _ => false
  | .rng2 a b, f, _, e => match f, e with
    | true, .Call (.Name x _) [y, z] [] _ => decide (x = ("range" : Str)) && globOk mc x && notStar y && notStar z && matchX mc a false y y && matchX mc b false z z
    | _, _ => false
  | .zip a b, f, t, e => match f, e with
    | true, .Call (.Name x _) [y, z] [] _ => isTuple t && decide (x = ("zip" : Str)) && globOk mc x && notStar y && notStar z && matchX mc a false y y && matchX mc b false z z
    | _, _ => false
  | .enmT a, f, t, e => match f, e with
    | true, .Call (.Name x _) [y] [] _ => isTuple t && decide (x = ("enumerate" : Str)) && globOk mc x && notStar y && matchX mc a false y y
    | _, _ => false
  | .trng1 a, _, _, e => match e with
    | .Call (.Name x _) [.Call (.Name z _) [y] [] _] [] _ => decide (x = ("tuple" : Str)) && globOk mc x && decide (z = ("range" : Str)) && globOk mc z && notStar y && matchX mc a false y y
    | _ => false
  | .enm a, f, t, e => match f, e with
    | true, .Call (.Name x _) [y] [] _ => isTuple t && decide (x = ("enumerate" : Str)) && globOk mc x && notStar y && matchX mc a false y y
    | _, _ => false
  | .revR a, f, _, e => match f, e with
    | true, .Call (.Name x _) [.Call (.Name z _) [y] [] _] [] _ => decide (x = ("reversed" : Str)) && globOk mc x && decide (z = ("range" : Str)) && globOk mc z && notStar y && matchX mc a false y y
    | _, _ => false
  | _, _, _, _ => false
termination_by structural x => x
def matchA (mc : MC) : IE → List Expr → Bool
  | .nil, es => es.isEmpty
  | .cons a r, es => match es with
    | x :: xs => notStar x && matchX mc a false x x && matchA mc r xs
    | [] => false
  | _, _ => false
termination_by structural x => x
end
def matchE (mc : MC) (ie : IE) (e : Expr) : Bool := matchX mc ie false e e
def matchI (mc : MC) (ie : IE) (t e : Expr) : Bool := matchX mc ie true t e
def matchO (mc : MC) (ie : IE) (o : Option Expr) : Bool := optE (isNil ie) (fun z => matchX mc ie false z z) o
def swB (mc : MC) (x : Str) (p : Pos) (e : Expr) : Bool := match e with
  | .ListComp _ _ scope pos => decide (mc.sc.names.lookup x = some .local) && p.line == pos.line && !(scope.names.any fun (n, k) => n == x && (k == .local || k == .cell))
  | _ => false
/-- a name in a cell: nothing is swapped on the way there -/
def cellB (mc : MC) (x : Str) : Bool := decide (mc.sc.names.lookup x = some .cell)
theorem swaps_cell {e : Expr} {x : Str} {p : Pos} {l : Nat} {env : Env} (h : env.scope.names.lookup x = some .cell) : swapsWith e (some (.Name x p)) l env = pure false := by
  have k : env.kindOf x = some .cell := h
  cases e <;> first | rfl | (unfold swapsWith; simp only [k]; rw [show (some NameKind.cell == some NameKind.local) = false from rfl]; simp)
def isFun (sc : Scope) : Bool := match sc.kind with
  | .function => true
  | _ => false
def isLc : IE → Bool
  | .lc _ _ _ _ _ => true
  | _ => false
/-- what a target of several names is unpacked from -/
def plainR : Expr → Bool
  | .Name _ _ | .Call _ _ _ _ | .Attribute _ _ _ | .Subscript _ _ _ => true
  | _ => false
/-- the argument of pop, if any -/
def matchP (mc : MC) (k : IE) (as : List Expr) : Bool := match as with
  | [] => isNil k
  | [x] => notStar x && !isNil k && matchE mc k x
  | _ => false
mutual
def matchS (mc : MC) : IS → List Stmt → Bool
  | .nil, ss => ss.isEmpty
  | .cons s r, ss => match ss with
    | x :: xs => matchS1 mc s x && matchS mc r xs
    | [] => false
  | _, _ => false
def matchS1 (mc : MC) : IS → Stmt → Bool
  | .set i e, st => match st with
    | .Assign [.Name x px] v pos => stoOk mc i x && matchE mc e v && ((notComp v || cellB mc x) || (isLc e && isFun mc.sc && swB mc x px v))
    | _ => false
  | .unp is e, st => match st with
    | .Assign [.Tuple es _ _] v pos => matchTs mc is es && plainR v && matchE mc e v
    | _ => false
  | .ite c a b, st => match st with
    | .If t p q _ => tst c && matchE mc c t && matchS mc a p && matchS mc b q
    | _ => false
  | .for tg it _ body, st => match st with
    | .For t i b [] _ => notSet i && matchI mc it t i && matchTg mc tg t && matchS mc body b
    | _ => false
  | .while c _ body, st => match st with
    | .While t b [] _ => tst c && matchE mc c t && matchS mc body b
    | _ => false
  | .ret e, st => match st with
    | .Return (some v) _ => matchE mc e v
    | _ => false
  | .retN, st => match st with
    | .Return none _ => true
    | _ => false
  | .drop e, st => match st with
    | .Expr v _ => notComp v && matchE mc e v
    | _ => false
  | .doc, st => match st with
    | .Expr (.Constant (.str _) _ _) _ => true
    | .Pass _ => true
    | _ => false
  | .app i e, st => match st with
    | .Expr (.Call (.Attribute (.Name x _) f apos) [y] [] cpos) _ => decide (f = ("append" : Str)) && nameOk mc i x && notStar y && matchE mc e y && apos.endLine == cpos.line
    | _ => false
  | .appT e a, st => match st with
    | .Expr (.Call (.Attribute v f apos) [y] [] cpos) _ => decide (f = ("append" : Str)) && attrOk v && notStar y && matchE mc e v && matchE mc a y && apos.endLine == cpos.line
    | _ => false
  | .setix i k e, st => match st with
    | .Assign [.Subscript (.Name x _) s _] v _ => notSlice s && nameOk mc i x && matchE mc k s && matchE mc e v
    | _ => false
  | .dput i k e, st => match st with
    | .Assign [.Subscript (.Name x _) s _] v _ => notSlice s && nameOk mc i x && matchE mc k s && matchE mc e v && notComp v
    | _ => false
  | .appPop i j k, st => match st with
    | .Expr (.Call (.Attribute (.Name x _) f apos) [.Call (.Attribute (.Name y _) g apos2) as [] cpos2] [] cpos) _ => decide (f = ("append" : Str)) && decide (g = ("pop" : Str)) && nameOk mc i x && nameOk mc j y && matchP mc k as && apos.endLine == cpos.line && apos2.endLine == cpos2.line
    | _ => false
  | .popS j k, st => match st with
    | .Expr (.Call (.Attribute (.Name y _) g apos2) as [] cpos2) _ => decide (g = ("pop" : Str)) && nameOk mc j y && matchP mc k as && apos2.endLine == cpos2.line
    | _ => false
  | .setPop i j k, st => match st with
    | .Assign [.Name x _] (.Call (.Attribute (.Name y _) g apos2) as [] cpos2) _ => decide (g = ("pop" : Str)) && stoOk mc i x && nameOk mc j y && matchP mc k as && apos2.endLine == cpos2.line
    | _ => false
  | .swap i k1 k2 e, st => match st with
    | .Assign [.Tuple [.Subscript (.Name x _) s1 _, .Subscript (.Name y _) s2 _] _ _] (.Tuple vs kt pt) _ => notSlice s1 && notSlice s2 && nameOk mc i x && nameOk mc i y && matchE mc k1 s1 && matchE mc k2 s2 && matchE mc e (.Tuple vs kt pt) && vs.all notStar
    | _ => false
  | .never, _ => true
  | .appEach i t n, st => match st with
    | .For (.Name t1 _) (.Name x _) [.Expr (.Call (.Attribute (.Name t2 _) f apos) [y] [] cpos) _] [] _ => decide (f = ("append" : Str)) && stoOk mc t t1 && nameOk mc i x && nameOk mc t t2 && notStar y && matchE mc (.int n) y && apos.endLine == cpos.line
    | _ => false
  | .raise C, st => match st with
    | .Raise (some (.Call (.Name x _) [.Constant (.str _) _ _] [] _)) none _ => isExc C && decide (x = C) && globOk mc x && mc.rz C
    | _ => false
  | .tryx i j _ body, st => match st with
    | .Try bd [.ExceptHandler (some (.Name x _)) (some n) [.Assign [.Name y _] (.Name n' _) _] _] [] [] _ => mc.df && mc.tr && decide (x = ("FlatError" : Str)) && globOk mc x && decide (mc.N[i]? = some n) && decide (mc.sc.names.lookup n = some .local) && decide (n' = n) && nameOk mc i n && stoOk mc j y && matchS mc body bd
    | _ => false
  | .aug i sub e, st => match st with
    | .AugAssign (.Name x _) op v _ => decide (op = if sub = true then .Sub else .Add) && stoOk mc i x && matchE mc e v
    | _ => false
  | _, _ => false
end
end FM

set_option Elab.async false
set_option linter.all false
set_option maxRecDepth 100000
namespace FM
open PySem L2
theorem bind1 {γ : Type} {o : Option (List M × List M)} {f : List M × List M → Option γ} {r : γ} (h : o.bind f = some r) : ∃ m Δ, o = some (m, Δ) ∧ f (m, Δ) = some r := by
  cases o with
  | none => cases h
  | some p => exact ⟨p.1, p.2, rfl, h⟩
theorem asI_of {x : D} {K : Int → Prop} (h : asI x K) : ∃ i, x = .int i ∧ K i := by
  cases x <;> first | exact h.elim | exact ⟨_, rfl, h⟩
theorem asB_of {x : D} {K : Bool → Prop} (h : asB x K) : ∃ i, x = .bl i ∧ K i := by
  cases x <;> first | exact h.elim | exact ⟨_, rfl, h⟩
theorem asL_of {x : D} {K : Dat → Prop} (h : asL x K) : ∃ i, x = .lst i ∧ K i := by
  cases x <;> first | exact h.elim | exact ⟨_, rfl, h⟩
theorem asT_of {x : D} {K : Dat → Prop} (h : asT x K) : ∃ i, x = .tup i ∧ K i := by
  cases x <;> first | exact h.elim | exact ⟨_, rfl, h⟩
theorem bindO {β γ : Type} {o : Option β} {f : β → Option γ} {r : γ} (h : o.bind f = some r) : ∃ x, o = some x ∧ f x = some r := by
  cases o with
  | none => cases h
  | some p => exact ⟨p, rfl, h⟩
theorem one_of {ms : List M} {m : M} (h : one? ms = some m) : ms = [m] := by
  unfold one? at h
  split at h
  · cases h; rfl
  · cases h
theorem and_of {a b : Bool} (h : (a && b) = true) : a = true ∧ b = true := by simpa using h

def SE (c : Cfg) (Ω : Str → FSem) (tc : SigT) (ie : IE) : Prop := ∀ X mc W, Ctx X c Ω tc mc W → ∀ e, matchE mc ie e = true → PE X e (tE c Ω tc W ie)
def SAr (c : Cfg) (Ω : Str → FSem) (tc : SigT) (ie : IE) : Prop := ∀ X mc W, Ctx X c Ω tc mc W → ∀ es, matchA mc ie es = true → es.all notStar = true ∧ PA X es (tAr c Ω tc W ie)
def STe (c : Cfg) (Ω : Str → FSem) (tc : SigT) (ie : IE) : Prop := ∀ X mc W, Ctx X c Ω tc mc W → ∀ e, matchE mc ie e = true → PT X e (tTe c Ω tc W ie)

section
variable {c : Cfg} {Ω : Str → FSem} {tc : SigT} {H0 B B' H H' : Hp} {Δ Δ' : List M} {ρ ρ' : Dat} {σ σ' : List (Option V)} {T T' fr : List En} {e : En} {m : M} {d : D} {v : V} {ov : Option V} {i : Nat}
theorem SA.slot (h : SA c H0 B H Δ ρ σ T fr) (hm : Δ[i]? = some m) (hd : (ρ.getD i .hole).live) (hm2 : m ≠ .dead) : ∃ v, σ[i]? = some (some v) ∧ ρ[i]? = some (ρ.getD i .hole) ∧ i < σ.length ∧
    SA c H0 B H (Δ.set i .dead) ρ σ (⟨m, ρ.getD i .hole, some v⟩ :: T) fr := by
  have hi : i < Δ.length := (List.getElem?_eq_some_iff.mp hm).1
  have hi1 : i < σ.length := by rw [← h.l1]; exact hi
  have hi2 : i < ρ.length := by rw [h.l2]; exact hi1
  have er : ρ[i]? = some (ρ.getD i .hole) := by
    rw [List.getD_eq_getElem?_getD, List.getElem?_eq_getElem hi2]; rfl
  have ev : σ[i]? = some σ[i] := List.getElem?_eq_getElem hi1
  have q := h.takeOut hm er ev (ρ.getD i .hole)
  have es : ρ.set i (ρ.getD i .hole) = ρ := by
    obtain ⟨_, e⟩ := List.getElem?_eq_some_iff.mp er
    conv => lhs; rw [← e]
    exact List.set_getElem_self _
  rw [es] at q
  obtain ⟨v, L, e, _⟩ := q.rep hm2 (by intro z; rw [z] at hd; exact hd)
  rw [e] at q ev
  exact ⟨v, ev, er, hi1, q⟩
theorem SA.put' (h : SA c H0 B H (Δ.set i .dead) ρ σ (⟨m, d, some v⟩ :: T) fr) (hv : σ[i]? = some (some v)) : SA c H0 B H (Δ.set i m) (ρ.set i d) σ T fr := by
  obtain ⟨hi, e⟩ := List.getElem?_eq_some_iff.mp hv
  have q := h.putIn hi
  rw [List.set_set] at q
  have es : σ.set i (some v) = σ := by rw [← e]; exact List.set_getElem_self _
  rw [es] at q
  exact q
theorem set_getD (h : ρ[i]? = some (ρ.getD i .hole)) : ρ.set i (ρ.getD i .hole) = ρ := by
  obtain ⟨_, e⟩ := List.getElem?_eq_some_iff.mp h
  conv => lhs; rw [← e]
  exact List.set_getElem_self _
theorem M.owned_live (h : m.owned = true) : m ≠ .dead := by rintro rfl; cases h

theorem se_int (n : Int) : SE c Ω tc (.int n) := by
  intro X mc W C e h
  unfold matchE matchX at h
  split at h
  · have e1 := of_decide_eq_true h
    subst e1
    refine PE.imp pe_int fun σ H Q q => ?_
    obtain ⟨H0, B, Δ, ρ, T, fr, m, Δ', Qd, Xd, sa, ty, wp, xc, k⟩ := q
    simp only [tyE, Option.some.injEq, Prod.mk.injEq, List.cons.injEq, and_true] at ty
    obtain ⟨rfl, rfl⟩ := ty
    exact k _ _ wp _ B H Ex.rfl' Ex.rfl' (sa.scal (fun z => nomatch z) rep_int) (fun z => nomatch z)
  · cases h
theorem se_bl (n : Bool) : SE c Ω tc (.bl n) := by
  intro X mc W C e h
  unfold matchE matchX at h
  split at h
  · have e1 := of_decide_eq_true h
    subst e1
    refine PE.imp pe_bl fun σ H Q q => ?_
    obtain ⟨H0, B, Δ, ρ, T, fr, m, Δ', Qd, Xd, sa, ty, wp, xc, k⟩ := q
    simp only [tyE, Option.some.injEq, Prod.mk.injEq, List.cons.injEq, and_true] at ty
    obtain ⟨rfl, rfl⟩ := ty
    exact k _ _ wp _ B H Ex.rfl' Ex.rfl' (sa.scal (fun z => nomatch z) rep_bl) (fun z => nomatch z)
  · cases h
theorem se_str (n : Str) : SE c Ω tc (.str n) := by
  intro X mc W C e h
  unfold matchE matchX at h
  split at h
  · have e1 := of_decide_eq_true h
    subst e1
    refine PE.imp pe_str fun σ H Q q => ?_
    obtain ⟨H0, B, Δ, ρ, T, fr, m, Δ', Qd, Xd, sa, ty, wp, xc, k⟩ := q
    simp only [tyE, Option.some.injEq, Prod.mk.injEq, List.cons.injEq, and_true] at ty
    obtain ⟨rfl, rfl⟩ := ty
    exact k _ _ wp _ B H Ex.rfl' Ex.rfl' (sa.scal (fun z => nomatch z) rep_str) (fun z => nomatch z)
  · cases h
theorem se_non : SE c Ω tc .non := by
  intro X mc W C e h
  unfold matchE matchX at h
  split at h
  · refine PE.imp pe_non fun σ H Q q => ?_
    obtain ⟨H0, B, Δ, ρ, T, fr, m, Δ', Qd, Xd, sa, ty, wp, xc, k⟩ := q
    simp only [tyE, Option.some.injEq, Prod.mk.injEq, List.cons.injEq, and_true] at ty
    obtain ⟨rfl, rfl⟩ := ty
    exact k _ _ wp _ B H Ex.rfl' Ex.rfl' (sa.scal (fun z => nomatch z) rep_non) (fun z => nomatch z)
  · cases h
theorem name_of {X : Cx} {mc : MC} {W : WX} (C : Ctx X c Ω tc mc W) {x : Str} {pos : Pos} (h : nameOk mc i x = true) : PE X (.Name x pos) (tVar i) := by
  unfold nameOk at h
  obtain ⟨h, h3⟩ := and_of h
  obtain ⟨h1, h2⟩ := and_of h
  obtain ⟨p1, p2⟩ := plainName_of h3
  exact pe_var (by rw [C.n]; exact of_decide_eq_true h1) (by rw [C.s]; exact vis_of h2) p1 p2
theorem se_var (i : Nat) : SE c Ω tc (.var i) := by
  intro X mc W C e h
  unfold matchE matchX at h
  split at h
  · refine PE.imp (name_of C h) fun σ H Q q => ?_
    obtain ⟨H0, B, Δ, ρ, T, fr, m, Δ', Qd, Xd, sa, ty, ⟨wl, wp⟩, xc, k⟩ := q
    simp only [tyE] at ty
    split at ty
    · rename_i mi hmi
      split at ty
      · rename_i ho
        cases ty
        obtain ⟨v, hv, er, hi, sa1⟩ := sa.slot hmi wl (M.owned_live ho)
        obtain ⟨B', b, sa2⟩ := sa1.freeze ho
        have sa3 := (sa2.dup rfl).put' hv
        rw [set_getD er] at sa3
        exact ⟨v, hv, k _ _ wp v B' H b Ex.rfl' sa3 (fun z => nomatch z)⟩
      · cases ty
    · cases ty
  · cases h
theorem se_bor (i : Nat) : SE c Ω tc (.bor i) := by
  intro X mc W C e h
  unfold matchE matchX at h
  split at h
  · refine PE.imp (name_of C h) fun σ H Q q => ?_
    obtain ⟨H0, B, Δ, ρ, T, fr, m, Δ', Qd, Xd, sa, ty, ⟨wl, wp⟩, xc, k⟩ := q
    simp only [tyE] at ty
    split at ty
    · rename_i mi hmi
      split at ty
      · cases ty
      · rename_i hnd
        cases ty
        obtain ⟨v, hv, er, hi, sa1⟩ := sa.slot hmi wl hnd
        have sa2 := ((sa1.borrow hnd).perm (List.Perm.swap ..)).put' hv
        rw [set_getD er] at sa2
        have eΔ : Δ.set i mi = Δ := by
          obtain ⟨_, e⟩ := List.getElem?_eq_some_iff.mp hmi
          rw [← e]; exact List.set_getElem_self _
        rw [eΔ] at sa2
        exact ⟨v, hv, k _ _ wp v B H Ex.rfl' Ex.rfl' sa2 (fun z => nomatch z)⟩
    · cases ty
  · cases h
theorem se_mv (i : Nat) : SE c Ω tc (.mv i) := by
  intro X mc W C e h
  unfold matchE matchX at h
  split at h
  · refine PE.imp (name_of C h) fun σ H Q q => ?_
    obtain ⟨H0, B, Δ, ρ, T, fr, m, Δ', Qd, Xd, sa, ty, ⟨wl, wp⟩, xc, k⟩ := q
    simp only [tyE] at ty
    split at ty
    · rename_i mi hmi
      split at ty
      · rename_i ho
        cases ty
        have hi : i < Δ.length := (List.getElem?_eq_some_iff.mp hmi).1
        have hi1 : i < σ.length := by rw [← sa.l1]; exact hi
        have er : ρ[i]? = some (ρ.getD i .hole) := by
          rw [List.getD_eq_getElem?_getD, List.getElem?_eq_getElem (show i < ρ.length by rw [sa.l2]; exact hi1)]; rfl
        obtain ⟨v, hv, _, _, _⟩ := sa.slot hmi wl (M.owned_live ho)
        exact ⟨v, hv, k _ _ wp v B H Ex.rfl' Ex.rfl' (sa.takeOut hmi er hv .hole) (M.owned_live ho)⟩
      · cases ty
    · cases ty
  · cases h
/-- two operands, then a value -/
theorem tE_two {a b ie : IE} {W : WX} {σ : L2.St} {H : Hp} {Q : VK} {r : V → V → Hp → Prop} (q : tE c Ω tc W ie σ H Q) (k2 : D → D → Dat → (D → Dat → Prop) → Prop)
    (hty : ∀ Δ, tyE tc ie Δ = (tyE tc a Δ).bind fun (ma, Δ1) => (tyE tc b Δ1).bind fun (mb, Δ2) => (one? ma).bind fun _ => (one? mb).bind fun _ => some ([.deep], Δ2))
    (hwp : ∀ ρ Q X, wpE Ω ie ρ Q X = wpE Ω a ρ (fun x ρ1 => wpE Ω b ρ1 (fun y ρ2 => k2 x y ρ2 Q) X) X)
    (fin : ∀ x y ρ2 Qd, k2 x y ρ2 Qd → ∀ H0 B H Δ T fr ma mb v u, SA c H0 B H Δ ρ2 σ (⟨mb, y, some u⟩ :: ⟨ma, x, some v⟩ :: T) fr → ma ≠ .dead → mb ≠ .dead →
      (∀ d, Qd d ρ2 → ∀ w, Rep c B H d .deep w [] → Q w H) → r v u H) :
    tE c Ω tc W a σ H fun x H1 => tE c Ω tc W b σ H1 fun y H2 => r x y H2 := by
  obtain ⟨H0, B, Δ, ρ, T, fr, m, Δ', Qd, Xd, sa, ty, wp, xc, k⟩ := q
  rw [hty] at ty
  obtain ⟨ma, Δ1, h1, ty⟩ := bind1 ty
  obtain ⟨mb, Δ2, h2, ty⟩ := bind1 ty
  obtain ⟨x, hx, ty⟩ := bindO ty
  obtain ⟨y, hy, ty⟩ := bindO ty
  cases one_of hx
  cases one_of hy
  cases ty
  rw [hwp] at wp
  refine ⟨H0, B, Δ, ρ, T, fr, x, _, _, Xd, sa, h1, wp, xc, fun d1 ρ1 w1 v1 B1 H1 b1 g1 sa1 n1 => ?_⟩
  refine ⟨H0, B1, _, ρ1, _, fr, y, _, _, Xd, sa1, h2, w1, xc.step1 b1 g1, fun d2 ρ2 w2 v2 B2 H2 b2 g2 sa2 n2 => ?_⟩
  refine fin d1 d2 ρ2 Qd w2 H0 B2 H2 _ T fr x y v1 v2 sa2 n1 n2 fun d hd w r => ?_
  exact k d ρ2 hd w B2 H2 (b1.tr b2) (g1.tr g2) (sa2.drop.drop.scal (fun z => nomatch z) r) (fun z => nomatch z)
theorem tE_one {a ie : IE} {W : WX} {σ : L2.St} {H : Hp} {Q : VK} {r : V → Hp → Prop} (q : tE c Ω tc W ie σ H Q) (k1 : D → Dat → (D → Dat → Prop) → Prop)
    (hty : ∀ Δ, tyE tc ie Δ = (tyE tc a Δ).bind fun (ma, Δ1) => (one? ma).bind fun _ => some ([.deep], Δ1))
    (hwp : ∀ ρ Q X, wpE Ω ie ρ Q X = wpE Ω a ρ (fun x ρ1 => k1 x ρ1 Q) X)
    (fin : ∀ x ρ1 Qd, k1 x ρ1 Qd → ∀ H0 B H Δ T fr ma v, SA c H0 B H Δ ρ1 σ (⟨ma, x, some v⟩ :: T) fr → ma ≠ .dead →
      (∀ d, Qd d ρ1 → ∀ w, Rep c B H d .deep w [] → Q w H) → r v H) :
    tE c Ω tc W a σ H fun x H1 => r x H1 := by
  obtain ⟨H0, B, Δ, ρ, T, fr, m, Δ', Qd, Xd, sa, ty, wp, xc, k⟩ := q
  rw [hty] at ty
  obtain ⟨ma, Δ1, h1, ty⟩ := bind1 ty
  obtain ⟨x, hx, ty⟩ := bindO ty
  cases one_of hx
  cases ty
  rw [hwp] at wp
  refine ⟨H0, B, Δ, ρ, T, fr, x, _, _, Xd, sa, h1, wp, xc, fun d1 ρ1 w1 v1 B1 H1 b1 g1 sa1 n1 => ?_⟩
  refine fin d1 ρ1 Qd w1 H0 B1 H1 _ T fr x v1 sa1 n1 fun d hd w r => ?_
  exact k d ρ1 hd w B1 H1 b1 g1 (sa1.drop.scal (fun z => nomatch z) r) (fun z => nomatch z)
theorem SA.isInt2 {x y : Int} {ma mb : M} {v u : V} (h : SA c H0 B H Δ ρ σ (⟨mb, .int y, some u⟩ :: ⟨ma, .int x, some v⟩ :: T) fr) (ha : ma ≠ .dead) (hb : mb ≠ .dead) : v = .int x ∧ u = .int y := ⟨h.drop.isInt ha, h.isInt hb⟩
/-- // of any ints that the interpreter divides by itself -/
theorem op_fdivX {X : Cx} : OpR X (binaryOp .FloorDiv) (rI DivOk fun i j => .int (i.fdiv j)) := opI fun _ _ _ _ _ _ _ hc q => PyProof.Rows.floordiv_int hc.1 q (.inl hc.2)
theorem op_mulX {X : Cx} : OpR X (binaryOp .Mult) (rI IntMulOk fun i j => .int (i * j)) := opI fun _ _ _ _ _ _ _ hc q => PyProof.Rows.mul_int q hc
theorem LIM_line {n : Nat} (h : n ≤ LIM) : n ≤ sizeLine := Nat.le_trans h (by decide)
theorem se_bin (o : BOp) {a b : IE} (ha : SE c Ω tc a) (hb : SE c Ω tc b) : SE c Ω tc (.bin o a b) := by
  intro X mc W C e h
  unfold matchE matchX at h
  split at h
  · rename_i l op r pos
    obtain ⟨h, h2⟩ := and_of h
    obtain ⟨h0, h1⟩ := and_of h
    have e0 := of_decide_eq_true h0
    subst e0
    have pa := ha X mc W C _ h1
    have pb := hb X mc W C _ h2
    have key : ∀ {rr : R2}, OpR X (binaryOp (opOf o)) rr → (∀ x y ρ2 (Qd : D → Dat → Prop), binD o x y (fun z => Qd z ρ2) → ∀ H0 B H Δ T fr ma mb v u (σ : L2.St) (Q : VK), SA c H0 B H Δ ρ2 σ (⟨mb, y, some u⟩ :: ⟨ma, x, some v⟩ :: T) fr → ma ≠ .dead → mb ≠ .dead →
      (∀ d, Qd d ρ2 → ∀ w, Rep c B H d .deep w [] → Q w H) → rr v u H Q) → PE X (.BinOp l (opOf o) r pos) (tE c Ω tc W (.bin o a b)) := fun {rr} op fin =>
      PE.imp (pe_op op pa pb) fun σ H Q q => tE_two q (fun x y ρ2 Qd => binD o x y fun z => Qd z ρ2) (fun _ => rfl) (fun _ _ _ => rfl)
        fun x y ρ2 Qd w H0 B H Δ T fr ma mb v u sa n1 n2 kk => fin x y ρ2 Qd w H0 B H Δ T fr ma mb v u σ Q sa n1 n2 kk
    cases o with
    | add =>
      refine key (rr := fun x y H Q => rI0 (fun i j => .int (i + j)) x y H Q ∨ (∃ i j, x = .str i ∧ y = .str j ∧ i.length + j.length ≤ sizeLine ∧ Q (.str (i ++ j)) H)) (OpR.or op_add op_add_str) ?_
      intro x y ρ2 Qd w H0 B H Δ T fr ma mb v u σ Q sa n1 n2 kk
      unfold binD at w
      split at w <;> first | exact w.elim | skip
      all_goals first | contradiction | skip
      · obtain ⟨rfl, rfl⟩ := sa.isInt2 n1 n2
        exact .inl ⟨_, _, rfl, rfl, kk _ w _ rep_int⟩
      · obtain rfl := sa.isStr n2
        obtain rfl := sa.drop.isStr n1
        exact .inr ⟨_, _, rfl, rfl, LIM_line w.1, kk _ w.2 _ rep_str⟩
    | sub =>
      refine key op_sub ?_
      intro x y ρ2 Qd w H0 B H Δ T fr ma mb v u σ Q sa n1 n2 kk
      unfold binD at w
      split at w <;> first | exact w.elim | skip
      all_goals first | contradiction | skip
      obtain ⟨rfl, rfl⟩ := sa.isInt2 n1 n2
      exact ⟨_, _, rfl, rfl, kk _ w _ rep_int⟩
    | mul =>
      refine key op_mulX ?_
      intro x y ρ2 Qd w H0 B H Δ T fr ma mb v u σ Q sa n1 n2 kk
      unfold binD at w
      split at w <;> first | exact w.elim | skip
      all_goals first | contradiction | skip
      obtain ⟨rfl, rfl⟩ := sa.isInt2 n1 n2
      exact ⟨_, _, rfl, rfl, w.1, kk _ w.2 _ rep_int⟩
    | fdiv =>
      refine key op_fdivX ?_
      intro x y ρ2 Qd w H0 B H Δ T fr ma mb v u σ Q sa n1 n2 kk
      unfold binD at w
      split at w <;> first | exact w.elim | skip
      all_goals first | contradiction | skip
      obtain ⟨rfl, rfl⟩ := sa.isInt2 n1 n2
      exact ⟨_, _, rfl, rfl, w.1, kk _ w.2 _ rep_int⟩
    | mod =>
      refine key op_modN ?_
      intro x y ρ2 Qd w H0 B H Δ T fr ma mb v u σ Q sa n1 n2 kk
      unfold binD at w
      split at w <;> first | exact w.elim | skip
      all_goals first | contradiction | skip
      obtain ⟨rfl, rfl⟩ := sa.isInt2 n1 n2
      exact ⟨_, _, rfl, rfl, w.1, kk _ w.2 _ rep_int⟩
    | pow =>
      refine key op_pow ?_
      intro x y ρ2 Qd w H0 B H Δ T fr ma mb v u σ Q sa n1 n2 kk
      unfold binD at w
      split at w <;> first | exact w.elim | skip
      all_goals first | contradiction | skip
      obtain ⟨rfl, rfl⟩ := sa.isInt2 n1 n2
      exact ⟨_, _, rfl, rfl, ⟨w.1.1, Int.le_trans w.1.2.1 (by decide), w.1.2.2⟩, kk _ w.2 _ rep_int⟩
  · cases h
theorem se_cmp (o : COp) {a b : IE} (ha : SE c Ω tc a) (hb : SE c Ω tc b) : SE c Ω tc (.cmp o a b) := by
  intro X mc W C e h
  unfold matchE matchX at h
  split at h
  · rename_i l op r pos
    obtain ⟨h, h2⟩ := and_of h
    obtain ⟨h0, h1⟩ := and_of h
    have e0 := of_decide_eq_true h0
    subst e0
    have pa := ha X mc W C _ h1
    have pb := hb X mc W C _ h2
    have op : OpR X (compareOp (cmpOf o)) (rI0 fun i j => .bl (cmpI o i j)) := by
      cases o
      · exact op_lt
      · exact op_le
      · exact op_gt
      · exact op_ge
    refine PE.imp (pe_cmpR op pa pb (nomark _ (by cases o <;> decide) (by cases o <;> decide))) fun σ H Q q => tE_two q (fun x y ρ2 Qd => asI x fun i => asI y fun j => Qd (.bl (cmpI o i j)) ρ2) (fun _ => rfl) (fun _ _ _ => rfl)
        fun x y ρ2 Qd w H0 B H Δ T fr ma mb v u sa n1 n2 kk => ?_
    obtain ⟨i, rfl, w1⟩ := asI_of w
    obtain ⟨j, rfl, w2⟩ := asI_of w1
    obtain ⟨rfl, rfl⟩ := sa.isInt2 n1 n2
    exact ⟨_, _, rfl, rfl, kk _ w2 _ rep_bl⟩
  · cases h
theorem se_neg {a : IE} (ha : SE c Ω tc a) : SE c Ω tc (.neg a) := by
  intro X mc W C e h
  unfold matchE matchX at h
  split at h
  · refine PE.imp (pe_un un_neg (ha X mc W C _ h)) fun σ H Q q => tE_one q (fun x ρ1 Qd => asI x fun i => Qd (.int (-i)) ρ1) (fun _ => rfl) (fun _ _ _ => rfl)
        fun x ρ1 Qd w H0 B H Δ T fr ma v sa n1 kk => ?_
    obtain ⟨i, rfl, w⟩ := asI_of w
    obtain rfl := sa.isInt n1
    exact ⟨_, rfl, kk _ w _ rep_int⟩
  · cases h
theorem se_not {a : IE} (ha : SE c Ω tc a) : SE c Ω tc (.not a) := by
  intro X mc W C e h
  unfold matchE matchX at h
  split at h
  · refine PE.imp (pe_not (ha X mc W C _ h)) fun σ H Q q => tE_one q (fun x ρ1 Qd => asB x fun i => Qd (.bl (!i)) ρ1) (fun _ => rfl) (fun _ _ _ => rfl)
        fun x ρ1 Qd w H0 B H Δ T fr ma v sa n1 kk => ?_
    obtain ⟨i, rfl, w⟩ := asB_of w
    obtain rfl := sa.isBl n1
    exact ⟨_, rfl, kk _ w _ rep_bl⟩
  · cases h
end
end FM

set_option Elab.async false
set_option linter.all false
set_option maxRecDepth 100000
namespace FM
open PySem L2
mutual
/-- what == reads -/
theorem Rep.dp {c : Cfg} {B H : Hp} : ∀ {d : D} {m v L p}, Ex B H → Rep c B H d m v L → d.py = some p → Dp c.K H v p
  | .hole, _, _, _, _, b, h, e => by cases e
  | .non, _, _, _, _, b, h, e => by
    unfold Rep at h
    rw [h.2]
    cases e
    exact .non
  | .bl _, _, _, _, _, b, h, e => by
    unfold Rep at h
    rw [h.2]
    cases e
    exact .bl _
  | .int _, _, _, _, _, b, h, e => by
    unfold Rep at h
    rw [h.2]
    cases e
    exact .int _
  | .str _, _, _, _, _, b, h, e => by
    unfold Rep at h
    rw [h.2]
    cases e
    exact .str _
  | .tup ds, _, _, _, p, b, h, e => by
    unfold Rep at h
    obtain ⟨a, vs, rfl, s, r⟩ := h
    simp only [D.py, Option.map_eq_some_iff] at e
    obtain ⟨ps, e1, rfl⟩ := e
    exact .tup (SqT.of (b _ _ s)) (Reps.dp b r e1)
  | .lst ds, m, _, _, p, b, h, e => by
    unfold Rep at h
    obtain ⟨a, vs, L', rfl, r, q⟩ := h
    simp only [D.py, Option.map_eq_some_iff] at e
    obtain ⟨ps, e1, rfl⟩ := e
    refine .lst ?_ (Reps.dp b r e1)
    cases m with
    | dead => exact q.elim
    | deep => exact SqL.of q.2
    | shal => exact SqL.of q.2
    | frz => exact SqL.ex b q.2
    | bor => exact q.2
  | .dct _, _, _, _, _, b, h, e => by cases e
  | .ins _ _ ds, m, _, _, _, b, h, e => by cases e
  | .exc _ _ ds, m, _, _, _, b, h, e => by cases e
theorem Reps.dp {c : Cfg} {B H : Hp} : ∀ {ds : List D} {m vs L ps}, Ex B H → Reps c B H ds m vs L → D.pys ds = some ps → DpAll c.K H vs ps
  | [], _, _, _, _, b, h, e => by
    rw [(Reps.nil_iff.mp h).1]
    cases e
    exact .nil
  | d :: ds, _, _, _, _, b, h, e => by
    obtain ⟨v, vs', L1, L2, rfl, rfl, h1, h2⟩ := Reps.cons_iff.mp h
    simp only [D.pys] at e
    split at e
    · cases e
      exact .cons (Rep.dp b h1 (by assumption)) (Reps.dp b h2 (by assumption))
    · cases e
end
section
variable {c : Cfg} {Ω : Str → FSem} {tc : SigT} {H0 B B' H H' : Hp} {Δ Δ' : List M} {ρ ρ' : Dat} {σ σ' : List (Option V)} {T T' fr : List En} {e : En} {m : M} {d : D} {v : V} {ov : Option V} {i : Nat}
theorem sar_nil : SAr c Ω tc .nil := by
  intro X mc W C es h
  have e : es = [] := by
    cases es with
    | nil => rfl
    | cons _ _ => unfold matchA at h; cases h
  subst e
  refine ⟨rfl, PA.imp pa_nil fun σ H Q q => ?_⟩
  obtain ⟨H0, B, Δ, ρ, T, fr, ms, Δ', Qd, Xd, sa, ty, wp, xc, k⟩ := q
  cases ty
  exact k [] _ wp [] B H Ex.rfl' Ex.rfl' sa rfl rfl (fun _ z => nomatch z)
theorem sar_cons {a r : IE} (ha : SE c Ω tc a) (hr : SAr c Ω tc r) : SAr c Ω tc (.cons a r) := by
  intro X mc W C es h
  unfold matchA at h
  split at h
  · rename_i x xs
    obtain ⟨h, h3⟩ := and_of h
    obtain ⟨h1, h2⟩ := and_of h
    obtain ⟨n2, p2⟩ := hr X mc W C _ h3
    refine ⟨by rw [List.all_cons, h1, n2]; rfl, PA.imp (pa_cons (ha X mc W C _ h2) p2 (star_of h1)) fun σ H Q q => ?_⟩
    obtain ⟨H0, B, Δ, ρ, T, fr, ms, Δ', Qd, Xd, sa, ty, wp, xc, k⟩ := q
    simp only [tyE] at ty
    obtain ⟨ma, Δ1, t1, ty⟩ := bind1 ty
    obtain ⟨mr, Δ2, t2, ty⟩ := bind1 ty
    obtain ⟨y, hy, ty⟩ := bindO ty
    cases one_of hy
    cases ty
    refine ⟨H0, B, Δ, ρ, T, fr, y, _, _, Xd, sa, t1, wp, xc, fun d1 ρ1 w1 v1 B1 H1 b1 g1 sa1 n1 => ?_⟩
    refine ⟨H0, B1, _, ρ1, _, fr, mr, _, fun ds ρ2 => Qd (d1 :: ds) ρ2, Xd, sa1, t2, ?_, xc.step1 b1 g1, fun d2 ρ2 w2 v2 B2 H2 b2 g2 sa2 l1 l2 n2 => ?_⟩
    · have e : (fun (x : D) ρ' => asT x fun ds => Qd (d1 :: ds) ρ') = fun y ρ2 => asT y fun ys => asT (.tup (d1 :: ys)) fun ds => Qd ds ρ2 := rfl
      rw [e]; exact w1
    · refine k (d1 :: d2) ρ2 w2 (v1 :: v2) B2 H2 (b1.tr b2) (g1.tr g2) (sa2.perm ?_) (by simp [l1]) (by simp [l2]) ?_
      · show List.Perm (entsM mr d2 v2 ++ ⟨y, d1, some v1⟩ :: T) (⟨y, d1, some v1⟩ :: (entsM mr d2 v2 ++ T))
        exact List.perm_middle
      · intro m hm
        rcases List.mem_cons.mp hm with rfl | hm
        · exact n1
        · exact n2 m hm
  · cases h
theorem entsM_of : ∀ {ms : List M} {ds : List D} {vs : List V} {L : List Addr}, (∀ m ∈ ms, m ≠ .dead) → ds.length = ms.length → vs.length = ms.length → Ex B H → EnRs c B H (entsM ms ds vs) L → Reps c H H ds .frz vs []
  | [], [], [], _, _, _, _, _, _ => Reps.nil_iff.mpr ⟨rfl, rfl⟩
  | [], _ :: _, _, _, _, h, _, _, _ => by simp at h
  | [], [], _ :: _, _, _, _, h, _, _ => by simp at h
  | _ :: _, [], _, _, _, h, _, _, _ => by simp at h
  | _ :: _, _ :: _, [], _, _, _, h, _, _ => by simp at h
  | m :: ms, d :: ds, v :: vs, L, hm, l1, l2, b, h => by
    obtain ⟨L1, L2, rfl, h1, h2⟩ := h
    have r := (EnR.some_iff (hm m List.mem_cons_self)).mp h1
    exact Reps.cons_iff.mpr ⟨v, vs, [], [], rfl, rfl, Rep.toH b r, entsM_of (fun x hx => hm x (List.mem_cons_of_mem _ hx)) (by simpa using l1) (by simpa using l2) b h2⟩
theorem HA.seen {es : List En} {ms : List M} {ds : List D} {vs : List V} (h : HA c H0 B H (entsM ms ds vs ++ es) fr) (hm : ∀ m ∈ ms, m ≠ .dead) (l1 : ds.length = ms.length) (l2 : vs.length = ms.length) : HA c H H H (ents .frz ds vs) [] := by
  obtain ⟨L1, L2, h1, h2, nd, f0, fb⟩ := h.ex
  obtain ⟨L3, L4, rfl, h3, h4⟩ := EnRs.append.mp h1
  have r := entsM_of hm l1 l2 h.bh h3
  exact ⟨⟨[], [], (ents_iff (m := .frz) (fun z => nomatch z) (l2.trans l1.symm)).mpr r, rfl, List.nodup_nil, by simp, by simp⟩, Ex.rfl', Ex.rfl', by simp⟩
theorem seenS {ms : List M} {ds : List D} {vs : List V} (h : SA c H0 B H Δ ρ σ (entsM ms ds vs ++ T) fr) (hm : ∀ m ∈ ms, m ≠ .dead) (l1 : ds.length = ms.length) (l2 : vs.length = ms.length) : HA c H H H (ents .frz ds vs) [] := by
  have q := h.ha
  rw [List.append_assoc] at q
  exact HA.seen q hm l1 l2
theorem ExcR.mix {cls : Value} {dx : Option Addr} {x : D} (h : ExcR c B' H' cls dx x) : ExcR c (mixB B B') H' cls dx x := by
  obtain ⟨C, ns, ds, a, fs, e, ex, ec, ea, en, r, q⟩ := h
  exact ⟨C, ns, ds, a, fs, e, ex, ec, ea, en, Reps.reB (fun p o e t => mixB_tup e t) r, q.mono fun _ _ e t => mixB_tup e t⟩
theorem glob_of {X : Cx} {mc : MC} {W : WX} (C : Ctx X c Ω tc mc W) {x : Str} (h : globOk mc x = true) : Gl X x ∧ (x == ("__debug__" : Str)) = false := by
  unfold globOk at h
  obtain ⟨h1, h2⟩ := and_of h
  refine ⟨?_, (plainName_of h2).1⟩
  show X.env.scope.names.lookup x = some .globalImplicit
  rw [C.s]
  exact of_decide_eq_true h1
theorem se_call (f : Str) {r : IE} (hr : SAr c Ω tc r) : SE c Ω tc (.call f r) := by
  intro X mc W C e h
  unfold matchE matchX at h
  split at h
  · rename_i x p y ys pos
    obtain ⟨h, h3⟩ := and_of h
    obtain ⟨h1, h2⟩ := and_of h
    have e1 := of_decide_eq_true h1
    subst e1
    obtain ⟨n3, pa⟩ := hr X mc W C _ h3
    obtain ⟨hg, hdb⟩ := glob_of C h2
    obtain ⟨ny, nys⟩ : notStar y = true ∧ ys.all notStar = true := by
      rw [List.all_cons] at n3; exact and_of n3
    cases hs : tc.sg x with
    | none =>
      refine PE.imp (t := fun _ _ _ => False) ⟨fun _ _ _ _ _ _ z => z.elim⟩ fun σ H Q q => ?_
      obtain ⟨H0, B, Δ, ρ, T, fr, m, Δ', Qd, Xd, sa, ty, wp, xc, k⟩ := q
      simp only [tyE] at ty
      obtain ⟨ms, Δ1, t1, ty⟩ := bind1 ty
      rw [hs] at ty
      cases ty
    | some s =>
      obtain ⟨a, fd, ps, kk, gm, kp, bi, F, rm⟩ := C.fn x s hs
      refine PE.imp (pe_callS (E := WE W) F rm hg gm kp bi (fun σ => passAt C.tk σ) pa hdb (star_of ny) (noStars nys)) fun σ H Q q => ?_
      obtain ⟨H0, B, Δ, ρ, T, fr, m, Δ', Qd, Xd, sa, ty, wp, xc, k⟩ := q
      simp only [tyE] at ty
      obtain ⟨ms, Δ1, t1, ty⟩ := bind1 ty
      rw [hs] at ty
      obtain ⟨s', es, ty⟩ := bindO ty
      cases es
      split at ty
      · rename_i hl
        obtain ⟨hl, hxok⟩ := hl
        split at ty
        · rename_i hres
          obtain ⟨hres, hall⟩ := hres
          cases ty
          refine ⟨H0, B, Δ, ρ, T, fr, ms, _, fun xs ρ1 => Ω x xs (fun d => Qd d ρ1) (fun e => Xd e ρ1), Xd, sa, t1, wp, xc, fun ds ρ1 w1 vs B1 H1 b1 g1 sa1 l1 l2 n1 => ?_⟩
          refine ⟨H1, ds, [], _, _, l1.trans hl, l2.trans hl, w1, seenS sa1 n1 l2 l1, fun d hd v B' H' b' g' ha' => ?_, fun e he cls dx B' H' b' g' er ha' => ?_⟩
          · rw [hres] at ha'
            have base : HA c H0 B1 H1 (T ++ slots _ ρ1 σ) fr := sa1.drops.ha
            obtain ⟨bm, hm⟩ := base.lend ha' g' b'
            exact k d ρ1 hd v _ H' (b1.tr bm) (g1.tr g') ⟨hm, sa1.l1, sa1.l2⟩ (fun z => nomatch z)
          · have base : HA c H0 B1 H1 (T ++ slots _ ρ1 σ) fr := sa1.drops.ha
            obtain ⟨bm, hm⟩ := base.lend0 g' b' ha'.bh
            exact xc e ρ1 he _ cls dx _ H' hxok (b1.tr bm) (g1.tr g') er.mix ⟨hm, sa1.l1, sa1.l2⟩
        · cases ty
      · cases ty
  · cases h
end
end FM

set_option Elab.async false
set_option linter.all false
set_option maxRecDepth 100000
namespace FM
open PySem L2
mutual
/-- what is all tuples and scalars has no owner -/
theorem Rep.imm {c : Cfg} {B H H' : Hp} : ∀ {d : D} {m m' v L}, d.imm = true → Rep c B H d m v L → L = [] ∧ Rep c B H' d m' v []
  | .hole, _, _, _, _, i, h => by cases i
  | .non, _, _, _, _, i, h => by unfold Rep at h ⊢; exact ⟨h.1, rfl, h.2⟩
  | .bl _, _, _, _, _, i, h => by unfold Rep at h ⊢; exact ⟨h.1, rfl, h.2⟩
  | .int _, _, _, _, _, i, h => by unfold Rep at h ⊢; exact ⟨h.1, rfl, h.2⟩
  | .str _, _, _, _, _, i, h => by unfold Rep at h ⊢; exact ⟨h.1, rfl, h.2⟩
  | .tup ds, _, _, _, _, i, h => by
    unfold Rep at h ⊢
    obtain ⟨a, vs, rfl, s, r⟩ := h
    obtain ⟨e, r'⟩ := Reps.imm (H' := H') (show D.imms ds = true from i) r
    exact ⟨e, a, vs, rfl, s, r'⟩
  | .lst ds, _, _, _, _, i, h => by cases i
  | .dct _, _, _, _, _, i, h => by cases i
  | .ins _ _ ds, _, _, _, _, i, h => by cases i
  | .exc _ _ ds, _, _, _, _, i, h => by
    unfold Rep at h ⊢
    obtain ⟨eL, p, a, dx, fs, e, ec, eb, en, r, q⟩ := h
    exact ⟨eL, rfl, p, a, dx, fs, e, ec, eb, en, Reps.mono (m := .deep) ⟨Ex.rfl', (fun _ z => nomatch z), (fun z => nomatch z)⟩ r, q⟩
theorem Reps.imm {c : Cfg} {B H H' : Hp} : ∀ {ds : List D} {m m' vs L}, D.imms ds = true → Reps c B H ds m vs L → L = [] ∧ Reps c B H' ds m' vs []
  | [], _, _, _, _, i, h => ⟨(Reps.nil_iff.mp h).2, Reps.nil_iff.mpr ⟨(Reps.nil_iff.mp h).1, rfl⟩⟩
  | d :: ds, _, _, _, _, i, h => by
    obtain ⟨v, vs', L1, L2, rfl, rfl, h1, h2⟩ := Reps.cons_iff.mp h
    obtain ⟨i1, i2⟩ := and_of (show (d.imm && D.imms ds) = true from i)
    obtain ⟨rfl, r1⟩ := Rep.imm (H' := H') i1 h1
    obtain ⟨rfl, r2⟩ := Reps.imm (H' := H') i2 h2
    exact ⟨rfl, Reps.cons_iff.mpr ⟨v, vs', [], [], rfl, rfl, r1, r2⟩⟩
end
theorem ents_pick {m : M} {d : D} {w : V} : ∀ {ds : List D} {vs : List V} {n : Nat}, ds[n]? = some d → vs[n]? = some w → ∃ r, (ents m ds vs).Perm (⟨m, d, some w⟩ :: r)
  | [], _, _, h, _ => by simp at h
  | _ :: _, [], _, _, h => by simp at h
  | x :: ds, y :: vs, 0, h1, h2 => by
    simp at h1 h2
    subst h1 h2
    exact ⟨_, .refl _⟩
  | x :: ds, y :: vs, n + 1, h1, h2 => by
    obtain ⟨r, p⟩ := ents_pick (m := m) (n := n) (ds := ds) (vs := vs) (by simpa using h1) (by simpa using h2)
    exact ⟨⟨m, x, some y⟩ :: r, (p.cons _).trans (.swap ..)⟩
theorem entsM_all {m : M} : ∀ {ms : List M} {ds : List D} {vs : List V}, ms.all (· = m) = true → entsM ms ds vs = ents m (ds.take ms.length) (vs.take ms.length)
  | [], _, _, _ => by
    cases ‹List D› <;> rfl
  | x :: ms, ds, vs, h => by
    rw [List.all_cons] at h
    obtain ⟨h1, h2⟩ := and_of h
    have e := of_decide_eq_true h1
    subst e
    cases ds with
    | nil => rfl
    | cons d ds =>
      cases vs with
      | nil => rfl
      | cons v vs =>
        show ⟨x, d, some v⟩ :: entsM ms ds vs = ⟨x, d, some v⟩ :: ents x (ds.take ms.length) (vs.take ms.length)
        rw [entsM_all h2]
theorem atI_same {xs : Dat} {vs : List V} {i : Int} {d : D} (h : atI xs i = some d) (l : vs.length = xs.length) : ∃ (n : Nat) (w : V), xs[n]? = some d ∧ vs[n]? = some w ∧ atI vs i = some w := by
  unfold atI at h ⊢
  obtain ⟨n, e1, e2⟩ := Option.bind_eq_some_iff.mp h
  obtain ⟨hn, _⟩ := List.getElem?_eq_some_iff.mp e2
  obtain ⟨w, hv⟩ : ∃ w, vs[n]? = some w := ⟨_, List.getElem?_eq_getElem (show n < vs.length by omega)⟩
  refine ⟨n, w, e2, hv, ?_⟩
  rw [l, e1]
  exact hv
section
variable {c : Cfg} {Ω : Str → FSem} {tc : SigT} {H0 B B' H H' : Hp} {Δ Δ' : List M} {ρ ρ' : Dat} {σ σ' : List (Option V)} {T T' fr : List En} {e : En} {m : M} {d : D} {ds : Dat} {v : V} {vs : List V} {ov : Option V} {i : Nat} {p : Addr}
theorem SA.app (h : SA c H0 B H Δ ρ σ (T' ++ T) fr) : HA c H0 B H (T' ++ (T ++ slots Δ ρ σ)) fr := by
  have q := h.ha
  rw [List.append_assoc] at q
  exact q
theorem SA.newL (h : SA c H0 B H Δ ρ σ (ents m.inner ds vs ++ T) fr) (hm : m = .deep ∨ m = .shal) (hl : vs.length = ds.length) (n : H p = none) : SA c H0 B (upd H p (.lst vs)) Δ ρ σ (⟨m, .lst ds, some (.ref p)⟩ :: T) fr := ⟨HA.newL h.app hm hl n, h.l1, h.l2⟩
theorem SA.newT (h : SA c H0 B H Δ ρ σ (ents m ds vs ++ T) fr) (hm : m ≠ .dead) (hl : vs.length = ds.length) (n : H p = none) : Ex B (upd B p (.tup vs)) ∧ SA c H0 (upd B p (.tup vs)) (upd H p (.tup vs)) Δ ρ σ (⟨m, .tup ds, some (.ref p)⟩ :: T) fr := by
  obtain ⟨b, q⟩ := HA.newT h.app hm hl n
  exact ⟨b, q, h.l1, h.l2⟩
theorem SA.openL (h : SA c H0 B H Δ ρ σ (⟨m, .lst ds, ov⟩ :: T) fr) (hm : m ≠ .dead) : ∃ p vs, ov = some (.ref p) ∧ SqL c.K H p vs ∧ vs.length = ds.length ∧ SA c H0 B H Δ ρ σ (ents m.inner ds vs ++ T) fr := by
  obtain ⟨p, vs, e, s, l, q⟩ := HA.openL (es := T ++ slots Δ ρ σ) h.ha hm
  exact ⟨p, vs, e, s, l, by rw [← List.append_assoc] at q; exact q, h.l1, h.l2⟩
theorem SA.openT (h : SA c H0 B H Δ ρ σ (⟨m, .tup ds, ov⟩ :: T) fr) (hm : m ≠ .dead) : ∃ p vs, ov = some (.ref p) ∧ SqT c.K H p vs ∧ vs.length = ds.length ∧ SA c H0 B H Δ ρ σ (ents m ds vs ++ T) fr := by
  obtain ⟨p, vs, e, s, l, q⟩ := HA.openT (es := T ++ slots Δ ρ σ) h.ha hm
  exact ⟨p, vs, e, s, l, by rw [← List.append_assoc] at q; exact q, h.l1, h.l2⟩
theorem SA.openC (h : SA c H0 B H Δ ρ σ (⟨m, .lst ds, ov⟩ :: T) fr) (hm : m = .deep ∨ m = .shal) : ∃ p vs, ov = some (.ref p) ∧ H p = some (.lst vs) ∧ vs.length = ds.length ∧ SA c H0 B H Δ ρ σ (ents m.inner ds vs ++ ⟨m, .lst (holes vs.length), some (.ref p)⟩ :: T) fr := by
  obtain ⟨p, vs, e, s, l, q⟩ := HA.openC (es := T ++ slots Δ ρ σ) h.ha hm
  refine ⟨p, vs, e, s, l, ?_, h.l1, h.l2⟩
  show HA c H0 B H ((ents m.inner ds vs ++ ⟨m, .lst (holes vs.length), some (.ref p)⟩ :: T) ++ slots Δ ρ σ) fr
  rw [List.append_assoc]
  exact q
theorem SA.closeC (h : SA c H0 B H Δ ρ σ (ents m.inner ds vs ++ ⟨m, .lst (holes vs.length), some (.ref p)⟩ :: T) fr) (hm : m = .deep ∨ m = .shal) (hl : vs.length = ds.length) (hp : H p = some (.lst vs)) : SA c H0 B H Δ ρ σ (⟨m, .lst ds, some (.ref p)⟩ :: T) fr := by
  have q := h.ha
  rw [List.append_assoc] at q
  exact ⟨HA.closeC (es := T ++ slots Δ ρ σ) q hm hl hp, h.l1, h.l2⟩
theorem M.inner_live (h : m ≠ .dead) : m.inner ≠ .dead := by cases m <;> first | exact absurd rfl h | exact fun z => nomatch z
theorem SA.pick (h : SA c H0 B H Δ ρ σ (ents m ds vs ++ T) fr) {n : Nat} {w : V} (h1 : ds[n]? = some d) (h2 : vs[n]? = some w) : SA c H0 B H Δ ρ σ (⟨m, d, some w⟩ :: T) fr := by
  obtain ⟨r, p⟩ := ents_pick (m := m) h1 h2
  have q := h.perm (p.append_right T)
  have q2 : SA c H0 B H Δ ρ σ (r ++ ⟨m, d, some w⟩ :: T) fr := q.perm List.perm_middle.symm
  exact q2.drops
/-- frozen all -/
theorem SA.freezes : ∀ {ds : Dat} {vs : List V} {B : Hp} {T : List En}, m.owned = true → SA c H0 B H Δ ρ σ (ents m ds vs ++ T) fr → ∃ B', Ex B B' ∧ SA c H0 B' H Δ ρ σ (ents .frz ds vs ++ T) fr
  | [], vs, B, _, _, h => ⟨B, Ex.rfl', by cases vs <;> exact h⟩
  | _ :: _, [], B, _, _, h => ⟨B, Ex.rfl', h⟩
  | d :: ds, v :: vs, B, T, hm, h => by
    have h1 : SA c H0 B H Δ ρ σ (⟨m, d, some v⟩ :: (ents m ds vs ++ T)) fr := h
    obtain ⟨B1, b1, q1⟩ := h1.freeze hm
    have q2 : SA c H0 B1 H Δ ρ σ (ents m ds vs ++ ⟨.frz, d, some v⟩ :: T) fr := q1.perm List.perm_middle.symm
    obtain ⟨B2, b2, q3⟩ := SA.freezes hm q2
    exact ⟨B2, b1.tr b2, q3.perm List.perm_middle⟩
theorem SA.immE (h : SA c H0 B H Δ ρ σ (⟨m, d, some v⟩ :: T) fr) (hm : m ≠ .dead) (hi : d.imm = true) : SA c H0 B H Δ ρ σ (⟨.deep, d, some v⟩ :: T) fr ∧ Rep c B H d .deep v [] := by
  obtain ⟨w, L, e, r⟩ := h.rep hm (by rintro rfl; cases hi)
  cases e
  obtain ⟨_, r'⟩ := Rep.imm (H' := H) (m' := .deep) hi r
  exact ⟨h.drop.scal (fun z => nomatch z) r', r'⟩

theorem se_lst {r : IE} (hr : SAr c Ω tc r) : SE c Ω tc (.lst r) := by
  intro X mc W C e h
  unfold matchE matchX at h
  split at h
  · obtain ⟨n3, pa⟩ := hr X mc W C _ h
    refine PE.imp (pe_lst pa) fun σ H Q q => ?_
    obtain ⟨H0, B, Δ, ρ, T, fr, m, Δ', Qd, Xd, sa, ty, wp, xc, k⟩ := q
    simp only [tyE] at ty
    obtain ⟨ms, Δ1, t1, ty⟩ := bind1 ty
    split at ty
    · cases ty
    rename_i hlen
    dsimp only at hlen
    refine ⟨H0, B, Δ, ρ, T, fr, ms, Δ1, fun xs ρ1 => Qd (.lst xs) ρ1, Xd, sa, t1, wp, xc, fun ds ρ1 w1 vs B1 H1 b1 g1 sa1 l1 l2 n1 => ⟨LIM_line (by unfold LIM; omega), fun p np => ?_⟩⟩
    have e1 : ds.take ms.length = ds := List.take_of_length_le (by omega)
    have e2 : vs.take ms.length = vs := List.take_of_length_le (by omega)
    split at ty
    · rename_i ha
      cases ty
      rw [entsM_all ha, e1, e2] at sa1
      exact k _ ρ1 w1 _ B1 _ b1 (g1.tr (Ex.new np)) (SA.newL (m := .deep) sa1 (.inl rfl) (by omega) np) (fun z => nomatch z)
    · split at ty
      · rename_i ha
        cases ty
        rw [entsM_all ha, e1, e2] at sa1
        exact k _ ρ1 w1 _ B1 _ b1 (g1.tr (Ex.new np)) (SA.newL (m := .shal) sa1 (.inr rfl) (by omega) np) (fun z => nomatch z)
      · cases ty
  · cases h
theorem se_tup {r : IE} (hr : SAr c Ω tc r) : SE c Ω tc (.tup r) := by
  intro X mc W C e h
  unfold matchE matchX at h
  split at h
  · obtain ⟨n3, pa⟩ := hr X mc W C _ h
    refine PE.imp (pe_tup pa) fun σ H Q q => ?_
    obtain ⟨H0, B, Δ, ρ, T, fr, m, Δ', Qd, Xd, sa, ty, wp, xc, k⟩ := q
    simp only [tyE] at ty
    obtain ⟨ms, Δ1, t1, ty⟩ := bind1 ty
    split at ty
    · cases ty
    rename_i hlen
    dsimp only at hlen
    refine ⟨H0, B, Δ, ρ, T, fr, ms, Δ1, fun xs ρ1 => Qd (.tup xs) ρ1, Xd, sa, t1, wp, xc, fun ds ρ1 w1 vs B1 H1 b1 g1 sa1 l1 l2 n1 => ⟨LIM_line (by unfold LIM; omega), fun p np => ?_⟩⟩
    have e1 : ds.take ms.length = ds := List.take_of_length_le (by omega)
    have e2 : vs.take ms.length = vs := List.take_of_length_le (by omega)
    split at ty
    · rename_i ha
      cases ty
      rw [entsM_all ha, e1, e2] at sa1
      obtain ⟨bb, q⟩ := sa1.newT (m := .deep) (fun z => nomatch z) (by omega) np
      exact k _ ρ1 w1 _ _ _ (b1.tr bb) (g1.tr (Ex.new np)) q (fun z => nomatch z)
    · split at ty
      · rename_i ha
        cases ty
        rw [entsM_all ha, e1, e2] at sa1
        obtain ⟨bb, q⟩ := sa1.newT (m := .frz) (fun z => nomatch z) (by omega) np
        exact k _ ρ1 w1 _ _ _ (b1.tr bb) (g1.tr (Ex.new np)) q (fun z => nomatch z)
      · cases ty
  · cases h
theorem se_imm {a : IE} (ha : SE c Ω tc a) : SE c Ω tc (.imm a) := by
  intro X mc W C e h
  unfold matchE matchX at h
  refine PE.imp (ha X mc W C e h) fun σ H Q q => ?_
  obtain ⟨H0, B, Δ, ρ, T, fr, m, Δ', Qd, Xd, sa, ty, wp, xc, k⟩ := q
  simp only [tyE] at ty
  obtain ⟨ma, Δ1, t1, ty⟩ := bind1 ty
  obtain ⟨y, hy, ty⟩ := bindO ty
  cases one_of hy
  split at ty
  · cases ty
  · cases ty
    exact ⟨H0, B, Δ, ρ, T, fr, y, _, _, Xd, sa, t1, wp, xc, fun d ρ1 w1 v B1 H1 b1 g1 sa1 n1 => k d ρ1 w1.2 v B1 H1 b1 g1 (sa1.immE n1 w1.1).1 (fun z => nomatch z)⟩
theorem se_fz {a : IE} (ha : SE c Ω tc a) : SE c Ω tc (.fz a) := by
  intro X mc W C e h
  unfold matchE matchX at h
  refine PE.imp (ha X mc W C e h) fun σ H Q q => ?_
  obtain ⟨H0, B, Δ, ρ, T, fr, m, Δ', Qd, Xd, sa, ty, wp, xc, k⟩ := q
  simp only [tyE] at ty
  obtain ⟨ma, Δ1, t1, ty⟩ := bind1 ty
  obtain ⟨y, hy, ty⟩ := bindO ty
  cases one_of hy
  split at ty
  · rename_i ho
    cases ty
    refine ⟨H0, B, Δ, ρ, T, fr, y, _, _, Xd, sa, t1, wp, xc, fun d ρ1 w1 v B1 H1 b1 g1 sa1 n1 => ?_⟩
    obtain ⟨B2, b2, q⟩ := sa1.freeze ho
    exact k d ρ1 w1 v B2 H1 (b1.tr b2) g1 q (fun z => nomatch z)
  · cases ty
theorem SA.shal (h : SA c H0 B H Δ ρ σ (⟨.deep, .lst ds, some v⟩ :: T) fr) : ∃ B', Ex B B' ∧ SA c H0 B' H Δ ρ σ (⟨.shal, .lst ds, some v⟩ :: T) fr := by
  obtain ⟨p, vs, e, hp, hl, q⟩ := h.openC (.inl rfl)
  cases e
  obtain ⟨B', b, q2⟩ := SA.freezes (m := .deep) rfl (show SA c H0 B H Δ ρ σ (ents .deep ds vs ++ ⟨.deep, .lst (holes vs.length), some (.ref p)⟩ :: T) fr from q)
  refine ⟨B', b, SA.closeC (m := .shal) (vs := vs) ?_ (.inr rfl) hl hp⟩
  -- the cell under its other name
  have q3 : SA c H0 B' H Δ ρ σ (⟨.deep, .lst (holes vs.length), some (.ref p)⟩ :: (ents .frz ds vs ++ T)) fr := q2.perm List.perm_middle
  have q4 : SA c H0 B' H Δ ρ σ (⟨.shal, .lst (holes vs.length), some (.ref p)⟩ :: (ents .frz ds vs ++ T)) fr := by
    obtain ⟨L1, L2, ⟨L3, L4, rfl, h1, h3⟩, h2, nd, f0, fb⟩ := q3.ha.ex
    refine ⟨⟨⟨L3 ++ L4, L2, ⟨L3, L4, rfl, ?_, h3⟩, h2, nd, f0, fb⟩, q3.ha.bh, q3.ha.h0, q3.ha.nb⟩, q3.l1, q3.l2⟩
    have r := (EnR.some_iff (m := .deep) (fun z => nomatch z)).mp h1
    refine (EnR.some_iff (m := .shal) (fun z => nomatch z)).mpr ?_
    unfold Rep at r ⊢
    obtain ⟨p', vs', L', e', r', q'⟩ := r
    have z : L' = [] := by
      have own : ∀ {n : Nat} {vs : List V} {L : List Addr} {m : M}, Reps c B' H (holes n) m vs L → L = [] := by
        intro n
        induction n with
        | zero => intro vs L m h; exact (Reps.nil_iff.mp h).2
        | succ n ih =>
          intro vs L m h
          obtain ⟨v, vs', L1, L2, _, rfl, h1, h2⟩ := Reps.cons_iff.mp (show Reps c B' H (.hole :: holes n) m vs L from h)
          rw [hole_rep.mp h1, ih h2]; rfl
      exact own r'
    subst z
    have hl2 := Reps.len r'
    rw [holes_len] at hl2
    refine ⟨p', vs', [], e', ?_, q'⟩
    rw [← hl2]
    exact Reps.holes vs'
  exact q4.perm List.perm_middle.symm
theorem se_sh {a : IE} (ha : SE c Ω tc a) : SE c Ω tc (.sh a) := by
  intro X mc W C e h
  unfold matchE matchX at h
  refine PE.imp (ha X mc W C e h) fun σ H Q q => ?_
  obtain ⟨H0, B, Δ, ρ, T, fr, m, Δ', Qd, Xd, sa, ty, wp, xc, k⟩ := q
  simp only [tyE] at ty
  obtain ⟨ma, Δ1, t1, ty⟩ := bind1 ty
  obtain ⟨y, hy, ty⟩ := bindO ty
  cases one_of hy
  split at ty
  · cases ty
    refine ⟨H0, B, Δ, ρ, T, fr, _, _, _, Xd, sa, t1, wp, xc, fun d ρ1 w1 v B1 H1 b1 g1 sa1 n1 => ?_⟩
    obtain ⟨xs, rfl, w2⟩ := asL_of w1
    obtain ⟨B2, b2, q⟩ := sa1.shal
    exact k _ ρ1 w2 v B2 H1 (b1.tr b2) g1 q (fun z => nomatch z)
  · cases ty
    refine ⟨H0, B, Δ, ρ, T, fr, _, _, _, Xd, sa, t1, wp, xc, fun d ρ1 w1 v B1 H1 b1 g1 sa1 n1 => ?_⟩
    obtain ⟨xs, rfl, w2⟩ := asL_of w1
    exact k _ ρ1 w2 v B1 H1 b1 g1 sa1 (fun z => nomatch z)
  · cases ty
/-! ### modes told weaker -/
theorem HA.le {es : List En} (h : HA c H0 B H (⟨m, d, ov⟩ :: es) fr) {m' : M} (hl : m.le m' = true) : ∃ B', Ex B B' ∧ HA c H0 B' H (⟨m', d, ov⟩ :: es) fr := by
  cases m <;> cases m' <;> first
    | (cases hl; done)
    | exact ⟨B, Ex.rfl', h⟩
    | exact ⟨B, Ex.rfl', h.drop.addDead d ov⟩
    | exact h.freeze (fun z => nomatch z) (fun z => nomatch z)
theorem HA.les : ∀ {Δ Δ' : List M} {ρ : Dat} {σ : List (Option V)} {es : List En} {B : Hp}, HA c H0 B H (es ++ slots Δ ρ σ) fr → Δ.length = Δ'.length → (List.zipWith M.le Δ Δ').all id = true → ∃ B', Ex B B' ∧ HA c H0 B' H (es ++ slots Δ' ρ σ) fr
  | [], [], _, _, _, B, h, _, _ => ⟨B, Ex.rfl', h⟩
  | [], _ :: _, _, _, _, _, _, h, _ => by simp at h
  | _ :: _, [], _, _, _, _, _, h, _ => by simp at h
  | _ :: _, _ :: _, [], _, _, B, h, _, _ => ⟨B, Ex.rfl', h⟩
  | _ :: _, _ :: _, _ :: _, [], _, B, h, _, _ => ⟨B, Ex.rfl', h⟩
  | m :: Δ, m' :: Δ', d :: ρ, v :: σ, es, B, h, hl, ha => by
    have ha' : (m.le m' && (List.zipWith M.le Δ Δ').all id) = true := ha
    obtain ⟨h1, h2⟩ := and_of ha'
    have q : HA c H0 B H (⟨m, d, v⟩ :: (es ++ slots Δ ρ σ)) fr := HA.perm (show HA c H0 B H (es ++ ⟨m, d, v⟩ :: slots Δ ρ σ) fr from h) List.perm_middle
    obtain ⟨B1, b1, q1⟩ := q.le h1
    have q2 : HA c H0 B1 H ((es ++ [⟨m', d, v⟩]) ++ slots Δ ρ σ) fr := by
      rw [List.append_assoc]
      exact q1.perm List.perm_middle.symm
    obtain ⟨B2, b2, q3⟩ := HA.les (es := es ++ [⟨m', d, v⟩]) q2 (by simpa using hl) h2
    rw [List.append_assoc] at q3
    exact ⟨B2, b1.tr b2, q3⟩
theorem SA.les (h : SA c H0 B H Δ ρ σ T fr) (hl : leO (some Δ) Δ' = true) : ∃ B', Ex B B' ∧ SA c H0 B' H Δ' ρ σ T fr := by
  have hl' : (decide (Δ.length = Δ'.length) && (List.zipWith M.le Δ Δ').all id) = true := hl
  obtain ⟨h1, h2⟩ := and_of hl'
  have h1 := of_decide_eq_true h1
  obtain ⟨B', b, q⟩ := HA.les h.ha h1 h2
  exact ⟨B', b, q, by rw [← h1]; exact h.l1, h.l2⟩
end
end FM

set_option Elab.async false
set_option linter.all false
set_option maxRecDepth 100000
namespace FM
open PySem L2
section
variable {c : Cfg} {Ω : Str → FSem} {tc : SigT} {H0 B B' H H' : Hp} {Δ Δ' : List M} {ρ ρ' : Dat} {σ σ' : List (Option V)} {T T' fr : List En} {e : En} {m : M} {d : D} {ds : Dat} {v : V} {vs : List V} {ov : Option V} {i : Nat} {p : Addr}

/-! ### and, or, if-else as values -/
theorem se_and {a b : IE} (ha : SE c Ω tc a) (hb : SE c Ω tc b) : SE c Ω tc (.and a b) := by
  intro X mc W C e h
  unfold matchE matchX at h
  split at h
  · rename_i x y rest pos
    obtain ⟨h1, h2⟩ := and_of h
    have pb : PE X (.BoolOp .And (y :: rest) pos) (tE c Ω tc W b) := by
      cases rest with
      | nil => exact pe_one (hb X mc W C _ h2)
      | cons z zs => exact hb X mc W C _ h2
    refine PE.imp (pe_and (ha X mc W C _ h1) pb) fun σ H Q q => ?_
    obtain ⟨H0, B, Δ, ρ, T, fr, m, Δ', Qd, Xd, sa, ty, wp, xc, k⟩ := q
    simp only [tyE] at ty
    obtain ⟨ma, Δ1, t1, ty⟩ := bind1 ty
    obtain ⟨mb, Δ2, t2, ty⟩ := bind1 ty
    obtain ⟨y1, hy1, ty⟩ := bindO ty
    obtain ⟨y2, hy2, ty⟩ := bindO ty
    cases one_of hy1
    cases one_of hy2
    split at ty
    · rename_i eΔ
      dsimp only at eΔ
      cases ty
      refine ⟨H0, B, Δ, ρ, T, fr, y1, _, _, Xd, sa, t1, wp, xc, fun d ρ1 w1 v B1 H1 b1 g1 sa1 n1 => ?_⟩
      obtain ⟨bb, rfl, w2⟩ := asB_of w1
      obtain rfl := sa1.isBl n1
      refine ⟨bb, rfl, ?_⟩
      cases bb with
      | false =>
        obtain ⟨B3, b3, sa3⟩ := sa1.drop.les eΔ
        exact k _ ρ1 w2 _ B3 H1 (b1.tr b3) g1 (sa3.scal (fun z => nomatch z) rep_bl) (fun z => nomatch z)
      | true =>
        refine ⟨H0, B1, _, ρ1, T, fr, y2, _, _, Xd, sa1.drop, t2, w2, xc.step (T' := []) b1 g1, fun d ρ2 w3 v B2 H2 b2 g2 sa2 n2 => ?_⟩
        obtain ⟨cc, rfl, w4⟩ := asB_of w3
        obtain rfl := sa2.isBl n2
        exact k _ ρ2 w4 _ B2 H2 (b1.tr b2) (g1.tr g2) (sa2.drop.scal (fun z => nomatch z) rep_bl) (fun z => nomatch z)
    · cases ty
  · cases h
theorem se_or {a b : IE} (ha : SE c Ω tc a) (hb : SE c Ω tc b) : SE c Ω tc (.or a b) := by
  intro X mc W C e h
  unfold matchE matchX at h
  split at h
  · rename_i x y rest pos
    obtain ⟨h1, h2⟩ := and_of h
    have pb : PE X (.BoolOp .Or (y :: rest) pos) (tE c Ω tc W b) := by
      cases rest with
      | nil => exact pe_one (hb X mc W C _ h2)
      | cons z zs => exact hb X mc W C _ h2
    refine PE.imp (pe_or (ha X mc W C _ h1) pb) fun σ H Q q => ?_
    obtain ⟨H0, B, Δ, ρ, T, fr, m, Δ', Qd, Xd, sa, ty, wp, xc, k⟩ := q
    simp only [tyE] at ty
    obtain ⟨ma, Δ1, t1, ty⟩ := bind1 ty
    obtain ⟨mb, Δ2, t2, ty⟩ := bind1 ty
    obtain ⟨y1, hy1, ty⟩ := bindO ty
    obtain ⟨y2, hy2, ty⟩ := bindO ty
    cases one_of hy1
    cases one_of hy2
    split at ty
    · rename_i eΔ
      dsimp only at eΔ
      cases ty
      refine ⟨H0, B, Δ, ρ, T, fr, y1, _, _, Xd, sa, t1, wp, xc, fun d ρ1 w1 v B1 H1 b1 g1 sa1 n1 => ?_⟩
      obtain ⟨bb, rfl, w2⟩ := asB_of w1
      obtain rfl := sa1.isBl n1
      refine ⟨bb, rfl, ?_⟩
      cases bb with
      | true =>
        obtain ⟨B3, b3, sa3⟩ := sa1.drop.les eΔ
        exact k _ ρ1 w2 _ B3 H1 (b1.tr b3) g1 (sa3.scal (fun z => nomatch z) rep_bl) (fun z => nomatch z)
      | false =>
        refine ⟨H0, B1, _, ρ1, T, fr, y2, _, _, Xd, sa1.drop, t2, w2, xc.step (T' := []) b1 g1, fun d ρ2 w3 v B2 H2 b2 g2 sa2 n2 => ?_⟩
        obtain ⟨cc, rfl, w4⟩ := asB_of w3
        obtain rfl := sa2.isBl n2
        exact k _ ρ2 w4 _ B2 H2 (b1.tr b2) (g1.tr g2) (sa2.drop.scal (fun z => nomatch z) rep_bl) (fun z => nomatch z)
    · cases ty
  · cases h

/-! ### tests -/
theorem tTe_tE {ie : IE} {W : WX} {σ : L2.St} {H : Hp} {Q : Bool → Hp → Prop} (q : tTe c Ω tc W ie σ H Q) : tE c Ω tc W ie σ H fun x H' => ∃ k, x = V.bl k ∧ Q k H' := by
  obtain ⟨H0, B, Δ, ρ, T, fr, m, Δ', Qd, Xd, sa, ty, wp, xc, k⟩ := q
  refine ⟨H0, B, Δ, ρ, T, fr, m, Δ', _, Xd, sa, ty, wp, xc, fun d ρ1 w1 v B1 H1 b1 g1 sa1 n1 => ?_⟩
  obtain ⟨bb, rfl, w2⟩ := asB_of w1
  obtain rfl := sa1.isBl n1
  exact ⟨bb, rfl, k bb ρ1 w2 B1 H1 b1 g1 sa1.drop⟩
theorem te_plain {ie : IE} (ha : SE c Ω tc ie) (hp : ∀ mc e, matchE mc ie e = true → plainT e = true) : STe c Ω tc ie := fun X mc W C e h =>
  PT.imp (pt_val (ha X mc W C e h) (isTrue_of (hp mc e h))) fun σ H Q q => tTe_tE q
theorem te_cmp (o : COp) {a b : IE} (ha : SE c Ω tc a) (hb : SE c Ω tc b) : STe c Ω tc (.cmp o a b) := by
  intro X mc W C e h
  unfold matchE matchX at h
  split at h
  · rename_i l op r pos
    obtain ⟨h, h2⟩ := and_of h
    obtain ⟨h0, h1⟩ := and_of h
    have e0 := of_decide_eq_true h0
    subst e0
    have pa := ha X mc W C _ h1
    have pb := hb X mc W C _ h2
    have op : OpR X (compareOp (cmpOf o)) (rI0 fun i j => .bl (cmpI o i j)) := by
      cases o
      · exact op_lt
      · exact op_le
      · exact op_gt
      · exact op_ge
    refine PT.imp (pt_cmpR op pa pb (nomark _ (by cases o <;> decide) (by cases o <;> decide))) fun σ H Q q => tE_two (tTe_tE q) (fun x y ρ2 Qd => asI x fun i => asI y fun j => Qd (.bl (cmpI o i j)) ρ2) (fun _ => rfl) (fun _ _ _ => rfl)
        fun x y ρ2 Qd w H0 B H Δ T fr ma mb v u sa n1 n2 kk => ?_
    obtain ⟨i, rfl, w1⟩ := asI_of w
    obtain ⟨j, rfl, w2⟩ := asI_of w1
    obtain ⟨rfl, rfl⟩ := sa.isInt2 n1 n2
    exact ⟨_, _, rfl, rfl, kk _ w2 _ rep_bl⟩
  · cases h
theorem te_not {a : IE} (ha : STe c Ω tc a) : STe c Ω tc (.not a) := by
  intro X mc W C e h
  unfold matchE matchX at h
  split at h
  · refine PT.imp (pt_not (ha X mc W C _ h)) fun σ H Q q => ?_
    obtain ⟨H0, B, Δ, ρ, T, fr, m, Δ', Qd, Xd, sa, ty, wp, xc, k⟩ := q
    simp only [tyE] at ty
    obtain ⟨ma, Δ1, t1, ty⟩ := bind1 ty
    obtain ⟨y1, hy1, ty⟩ := bindO ty
    cases one_of hy1
    cases ty
    exact ⟨H0, B, Δ, ρ, T, fr, y1, _, fun k ρ' => Qd (!k) ρ', Xd, sa, t1, wp, xc, fun bb ρ1 w1 B1 H1 b1 g1 sa1 => k (!bb) ρ1 w1 B1 H1 b1 g1 sa1⟩
  · cases h
theorem te_and {a b : IE} (ha : STe c Ω tc a) (hb : STe c Ω tc b) (hw : ∀ X mc W, Ctx X c Ω tc mc W → ∀ y z zs pos, matchE mc b (.BoolOp .And (y :: z :: zs) pos) = true → PW X (.BoolOp .And (y :: z :: zs) pos) (tTe c Ω tc W b)) : STe c Ω tc (.and a b) ∧ ∀ X mc W, Ctx X c Ω tc mc W → ∀ e, matchE mc (.and a b) e = true → PW X e (tTe c Ω tc W (.and a b)) := by
  have main : ∀ X mc W, Ctx X c Ω tc mc W → ∀ e, matchE mc (.and a b) e = true → PW X e (tTe c Ω tc W (.and a b)) := by
    intro X mc W C e h
    unfold matchE matchX at h
    split at h
    · rename_i x y rest pos
      obtain ⟨h1, h2⟩ := and_of h
      have pb : PW X (.BoolOp .And (y :: rest) pos) (tTe c Ω tc W b) := by
        cases rest with
        | nil => exact pw_and1 (hb X mc W C _ h2)
        | cons z zs => exact hw X mc W C y z zs pos h2
      have pw := pw_and (ha X mc W C _ h1) pb
      refine ⟨fun whole pins s σ H Q I q => pw.run whole pins s σ H Q I ?_⟩
      obtain ⟨H0, B, Δ, ρ, T, fr, m, Δ', Qd, Xd, sa, ty, wp, xc, k⟩ := q
      simp only [tyE] at ty
      obtain ⟨ma, Δ1, t1, ty⟩ := bind1 ty
      obtain ⟨mb, Δ2, t2, ty⟩ := bind1 ty
      obtain ⟨y1, hy1, ty⟩ := bindO ty
      obtain ⟨y2, hy2, ty⟩ := bindO ty
      cases one_of hy1
      cases one_of hy2
      split at ty
      · rename_i eΔ
        dsimp only at eΔ
        cases ty
        refine ⟨H0, B, Δ, ρ, T, fr, y1, _, _, Xd, sa, t1, wp, xc, fun bb ρ1 w2 B1 H1 b1 g1 sa1 => ?_⟩
        cases bb with
        | false =>
          obtain ⟨B3, b3, sa3⟩ := sa1.les eΔ
          exact k _ ρ1 w2 B3 H1 (b1.tr b3) g1 sa3
        | true =>
          refine ⟨H0, B1, _, ρ1, T, fr, y2, _, fun k ρ' => asB (.bl k) fun k => Qd k ρ', Xd, sa1, t2, w2, xc.step (T' := []) b1 g1, fun bb ρ2 w3 B2 H2 b2 g2 sa2 => ?_⟩
          exact k _ ρ2 w3 B2 H2 (b1.tr b2) (g1.tr g2) sa2
      · cases ty
    · cases h
  exact ⟨fun X mc W C e h => (main X mc W C e h).pt, main⟩
theorem te_or {a b : IE} (ha : STe c Ω tc a) (hb : STe c Ω tc b) (hw : ∀ X mc W, Ctx X c Ω tc mc W → ∀ y z zs pos, matchE mc b (.BoolOp .Or (y :: z :: zs) pos) = true → PW X (.BoolOp .Or (y :: z :: zs) pos) (tTe c Ω tc W b)) : STe c Ω tc (.or a b) ∧ ∀ X mc W, Ctx X c Ω tc mc W → ∀ e, matchE mc (.or a b) e = true → PW X e (tTe c Ω tc W (.or a b)) := by
  have main : ∀ X mc W, Ctx X c Ω tc mc W → ∀ e, matchE mc (.or a b) e = true → PW X e (tTe c Ω tc W (.or a b)) := by
    intro X mc W C e h
    unfold matchE matchX at h
    split at h
    · rename_i x y rest pos
      obtain ⟨h1, h2⟩ := and_of h
      have pb : PW X (.BoolOp .Or (y :: rest) pos) (tTe c Ω tc W b) := by
        cases rest with
        | nil => exact pw_or1 (hb X mc W C _ h2)
        | cons z zs => exact hw X mc W C y z zs pos h2
      have pw := pw_or (ha X mc W C _ h1) pb
      refine ⟨fun whole pins s σ H Q I q => pw.run whole pins s σ H Q I ?_⟩
      obtain ⟨H0, B, Δ, ρ, T, fr, m, Δ', Qd, Xd, sa, ty, wp, xc, k⟩ := q
      simp only [tyE] at ty
      obtain ⟨ma, Δ1, t1, ty⟩ := bind1 ty
      obtain ⟨mb, Δ2, t2, ty⟩ := bind1 ty
      obtain ⟨y1, hy1, ty⟩ := bindO ty
      obtain ⟨y2, hy2, ty⟩ := bindO ty
      cases one_of hy1
      cases one_of hy2
      split at ty
      · rename_i eΔ
        dsimp only at eΔ
        cases ty
        refine ⟨H0, B, Δ, ρ, T, fr, y1, _, _, Xd, sa, t1, wp, xc, fun bb ρ1 w2 B1 H1 b1 g1 sa1 => ?_⟩
        cases bb with
        | true =>
          obtain ⟨B3, b3, sa3⟩ := sa1.les eΔ
          exact k _ ρ1 w2 B3 H1 (b1.tr b3) g1 sa3
        | false =>
          refine ⟨H0, B1, _, ρ1, T, fr, y2, _, fun k ρ' => asB (.bl k) fun k => Qd k ρ', Xd, sa1, t2, w2, xc.step (T' := []) b1 g1, fun bb ρ2 w3 B2 H2 b2 g2 sa2 => ?_⟩
          exact k _ ρ2 w3 B2 H2 (b1.tr b2) (g1.tr g2) sa2
      · cases ty
    · cases h
  exact ⟨fun X mc W C e h => (main X mc W C e h).pt, main⟩
theorem se_ite {t a b : IE} (ht : tst t = true → STe c Ω tc t) (ha : SE c Ω tc a) (hb : SE c Ω tc b) : SE c Ω tc (.ite t a b) := by
  intro X mc W C e h
  unfold matchE matchX at h
  split at h
  · obtain ⟨h, h3⟩ := and_of h
    obtain ⟨h, h2⟩ := and_of h
    obtain ⟨h0, h1⟩ := and_of h
    have ht := ht h0
    refine PE.imp (pe_ifExp (ht X mc W C _ h1) (ha X mc W C _ h2) (hb X mc W C _ h3)) fun σ H Q q => ?_
    obtain ⟨H0, B, Δ, ρ, T, fr, m, Δ', Qd, Xd, sa, ty, wp, xc, k⟩ := q
    simp only [tyE] at ty
    obtain ⟨mt, Δ0, t0, ty⟩ := bind1 ty
    obtain ⟨ma, Δ1, t1, ty⟩ := bind1 ty
    obtain ⟨mb, Δ2, t2, ty⟩ := bind1 ty
    obtain ⟨y0, hy0, ty⟩ := bindO ty
    obtain ⟨y1, hy1, ty⟩ := bindO ty
    obtain ⟨y2, hy2, ty9⟩ := bindO ty
    cases one_of hy0
    cases one_of hy1
    cases one_of hy2
    split at ty9
    · rename_i eΔ
      dsimp only at eΔ
      obtain ⟨e1, e2⟩ := eΔ
      cases ty9
      subst e1 e2
      refine ⟨H0, B, Δ, ρ, T, fr, y0, _, _, Xd, sa, t0, wp, xc, fun bb ρ1 w2 B1 H1 b1 g1 sa1 => ?_⟩
      cases bb with
      | true => exact ⟨H0, B1, _, ρ1, T, fr, _, _, _, Xd, sa1, t1, w2, xc.step (T' := []) b1 g1, fun d ρ2 w3 v B2 H2 b2 g2 sa2 n2 => k d ρ2 w3 v B2 H2 (b1.tr b2) (g1.tr g2) sa2 n2⟩
      | false => exact ⟨H0, B1, _, ρ1, T, fr, _, _, _, Xd, sa1, t2, w2, xc.step (T' := []) b1 g1, fun d ρ2 w3 v B2 H2 b2 g2 sa2 n2 => k d ρ2 w3 v B2 H2 (b1.tr b2) (g1.tr g2) sa2 n2⟩
    · cases ty9
  · cases h

/-! ### ==, is None -/
theorem eq_key {X : Cx} {mc : MC} {W : WX} (C : Ctx X c Ω tc mc W) (neg : Bool) {a b : IE} {σ : L2.St} {H : Hp} {Q : VK} (q : tE c Ω tc W (.eq neg a b) σ H Q) : tOp (if neg = true then rNeD X.K else rEqD X.K) (tE c Ω tc W a) (tE c Ω tc W b) σ H Q := by
  refine tE_two q (fun x y ρ2 Qd => eqD x y fun k => Qd (.bl (if neg = true then !k else k)) ρ2) (fun _ => rfl) (fun _ _ _ => rfl) fun x y ρ2 Qd w H0 B H Δ T fr ma mb v u sa n1 n2 kk => ?_
  unfold eqD at w
  split at w
  · rename_i p q' ep eq'
    obtain ⟨⟨s1, s2⟩, w⟩ := w
    have nx : x ≠ .hole := by rintro rfl; cases ep
    have ny : y ≠ .hole := by rintro rfl; cases eq'
    obtain ⟨v', L, e1, r1⟩ := sa.drop.rep n1 nx
    obtain ⟨u', L', e2, r2⟩ := sa.rep n2 ny
    cases e1
    cases e2
    have d1 := Rep.dp sa.ha.bh r1 ep
    have d2 := Rep.dp sa.ha.bh r2 eq'
    rw [C.k] at d1 d2
    cases neg with
    | true => exact ⟨p, q', d1, d2, s1, s2, kk _ w _ rep_bl⟩
    | false => exact ⟨p, q', d1, d2, s1, s2, kk _ w _ rep_bl⟩
  · exact w.elim
theorem Ctx.hu {X : Cx} {mc : MC} {W : WX} (C : Ctx X c Ω tc mc W) : X.A.units + 64 < cLine := C.rm.units
theorem eq_op {X : Cx} {mc : MC} {W : WX} (C : Ctx X c Ω tc mc W) (neg : Bool) : OpR X (compareOp (if neg = true then .NotEq else .Eq)) (if neg = true then rNeD X.K else rEqD X.K) := by
  cases neg
  · exact op_eqD C.hu
  · exact op_neD C.hu
theorem se_eq (neg : Bool) {a b : IE} (ha : SE c Ω tc a) (hb : SE c Ω tc b) : SE c Ω tc (.eq neg a b) := by
  intro X mc W C e h
  unfold matchE matchX at h
  split at h
  · obtain ⟨h, h2⟩ := and_of h
    obtain ⟨h0, h1⟩ := and_of h
    have e0 := of_decide_eq_true h0
    subst e0
    exact PE.imp (pe_cmpR (eq_op C neg) (ha X mc W C _ h1) (hb X mc W C _ h2) (nomark _ (by cases neg <;> decide) (by cases neg <;> decide))) fun σ H Q q => eq_key C neg q
  · cases h
theorem te_eq (neg : Bool) {a b : IE} (ha : SE c Ω tc a) (hb : SE c Ω tc b) : STe c Ω tc (.eq neg a b) := by
  intro X mc W C e h
  unfold matchE matchX at h
  split at h
  · obtain ⟨h, h2⟩ := and_of h
    obtain ⟨h0, h1⟩ := and_of h
    have e0 := of_decide_eq_true h0
    subst e0
    exact PT.imp (pt_cmpR (eq_op C neg) (ha X mc W C _ h1) (hb X mc W C _ h2) (nomark _ (by cases neg <;> decide) (by cases neg <;> decide))) fun σ H Q q => eq_key C neg (tTe_tE q)
  · cases h
theorem rep_isNon {L : List Addr} (r : Rep c B H d m v L) (hd : d.live) : decide (v = .non) = isNon d := by
  cases d with
  | hole => exact hd.elim
  | non => unfold Rep at r; rw [r.2]; rfl
  | bl b => unfold Rep at r; rw [r.2]; rfl
  | int b => unfold Rep at r; rw [r.2]; rfl
  | str b => unfold Rep at r; rw [r.2]; rfl
  | tup ds => unfold Rep at r; obtain ⟨p, vs, rfl, _⟩ := r; rfl
  | lst ds => unfold Rep at r; obtain ⟨p, vs, L', rfl, _⟩ := r; rfl
  | dct ds => unfold Rep at r; obtain ⟨p, rfl, _⟩ := r; rfl
  | ins C ns ds => unfold Rep at r; obtain ⟨p, a, dx, fs, L', rfl, _⟩ := r; rfl
  | exc C ns ds => unfold Rep at r; obtain ⟨_, p, a, dx, fs, rfl, _⟩ := r; rfl
theorem isn_key {W : WX} (neg : Bool) {a : IE} {σ : L2.St} {H : Hp} {Q : VK} (q : tE c Ω tc W (.isN neg a) σ H Q) : tE c Ω tc W a σ H fun x H1 => Q (.bl (if neg = true then !decide (x = .non) else decide (x = .non))) H1 := by
  refine tE_one q (fun x ρ1 Qd => x.live ∧ Qd (.bl (if neg = true then !isNon x else isNon x)) ρ1) (fun _ => rfl) (fun _ _ _ => rfl) fun x ρ1 Qd w H0 B H Δ T fr ma v sa n1 kk => ?_
  obtain ⟨v', L, e1, r1⟩ := sa.rep n1 (by rintro rfl; exact w.1)
  cases e1
  rw [rep_isNon r1 w.1]
  exact kk _ w.2 _ rep_bl
theorem se_isN (neg : Bool) {a : IE} (ha : SE c Ω tc a) : SE c Ω tc (.isN neg a) := by
  intro X mc W C e h
  unfold matchE matchX at h
  split at h
  · obtain ⟨h0, h1⟩ := and_of h
    have e0 := of_decide_eq_true h0
    subst e0
    cases neg with
    | false => exact PE.imp (pe_cmp (pc_isN (ha X mc W C _ h1))) fun σ H Q q => isn_key false q
    | true => exact PE.imp (pe_cmp (pc_notN (ha X mc W C _ h1))) fun σ H Q q => isn_key true q
  · cases h
theorem te_isN (neg : Bool) {a : IE} (ha : SE c Ω tc a) : STe c Ω tc (.isN neg a) := by
  intro X mc W C e h
  unfold matchE matchX at h
  split at h
  · obtain ⟨h0, h1⟩ := and_of h
    have e0 := of_decide_eq_true h0
    subst e0
    cases neg with
    | false => exact PT.imp (pt_cmp (pc_isN (ha X mc W C _ h1))) fun σ H Q q => isn_key false (tTe_tE q)
    | true => exact PT.imp (pt_cmp (pc_notN (ha X mc W C _ h1))) fun σ H Q q => isn_key true (tTe_tE q)
  · cases h
end
end FM

set_option Elab.async false
set_option linter.all false
set_option maxRecDepth 100000
namespace FM
open PySem L2
/-- l + b, lists of any standing -/
def rCatS (K : PySem.W.Frag) : R2 := fun x y H Q => ∃ l b xs zs, x = .ref l ∧ y = .ref b ∧ SqL K H l xs ∧ SqL K H b zs ∧ xs.length + zs.length ≤ sizeLine ∧ ∀ p, H p = none → Q (.ref p) (upd H p (.lst (xs ++ zs)))
theorem op_catS {X : Cx} : OpR X (binaryOp .Add) (rCatS X.K) := by
  rintro pins s σ H _ _ v u Q I rx ry ⟨l, b, xs, zs, rfl, rfl, hH, hB, hz, q⟩
  cases rx
  cases ry
  obtain ⟨its, r, pl, z⟩ := I.list hH
  obtain ⟨its2, r2, pl2, z2⟩ := I.list hB
  obtain ⟨⟨cls, dd, data, sl⟩, ho, hc, n, hd⟩ := id pl.isList
  obtain ⟨⟨cls2, dd2, data2, sl2⟩, ho2, hc2, n2, hd2⟩ := id pl2.isList
  simp only at hc hd hc2 hd2
  subst hc hd hc2 hd2
  have e : its.toArray ++ its2.toArray = (its ++ its2).toArray := by simp
  have l1 := r.length
  have l2 := r2.length
  refine PySem.concat_meets ⟨_, ho, rfl⟩ ⟨_, ho2, rfl⟩ PySem.noFill_list_add PySem.seq_list_add PySem.F.slot_list_add PySem.F.entry_list_add (PySem.F.args_list_add_2 _ _) (PyProof.Rows.list_addW l b its.toArray its2.toArray n n2 dd dd2 sl sl2 (by simp; omega)) ⟨ho, ho2, ?_⟩
  rw [e]
  have J := I.lnew (t' := s.toks) (r.append r2) (show (xs ++ zs).length ≤ sizeLine by simpa using hz)
  exact ⟨.ref s.heap.objs.size, _, J, rfl, q _ I.fresh⟩
theorem cut_len {xs : Dat} {vs : List V} (l : vs.length = xs.length) (lo hi : Option Int) : (cutV vs lo hi).length = (cut xs lo hi).length := by
  unfold cutV cut
  simp [l]
theorem imms_iff : ∀ {ds : Dat}, D.imms ds = true ↔ ∀ d ∈ ds, d.imm = true
  | [] => ⟨(fun _ _ z => nomatch z), (fun _ => rfl)⟩
  | d :: ds => by
    show (d.imm && D.imms ds) = true ↔ _
    rw [Bool.and_eq_true, imms_iff (ds := ds)]
    constructor
    · rintro ⟨h1, h2⟩ x hx
      rcases List.mem_cons.mp hx with rfl | hx
      · exact h1
      · exact h2 x hx
    · intro h
      exact ⟨h d List.mem_cons_self, fun x hx => h x (List.mem_cons_of_mem _ hx)⟩
theorem cut_sub (xs : Dat) (lo hi : Option Int) : ∀ d ∈ cut xs lo hi, d ∈ xs := fun d h => List.mem_of_mem_drop (List.mem_of_mem_take h)
theorem imms_cut {xs : Dat} {lo hi : Option Int} (h : D.imms xs = true) : D.imms (cut xs lo hi) = true := imms_iff.mpr fun d hd => imms_iff.mp h d (cut_sub xs lo hi d hd)
theorem imms_app {xs ys : Dat} (h : D.imms xs = true) (h' : D.imms ys = true) : D.imms (xs ++ ys) = true := imms_iff.mpr fun d hd => (List.mem_append.mp hd).elim (imms_iff.mp h d) (imms_iff.mp h' d)
theorem ents_take {m : M} : ∀ {ds : Dat} {vs : List V} {n : Nat}, ∃ r, (ents m ds vs).Perm (ents m (ds.take n) (vs.take n) ++ r)
  | [], vs, n => ⟨[], by cases vs <;> simp [ents]⟩
  | _ :: _, [], n => ⟨[], by cases n <;> simp [ents]⟩
  | d :: ds, v :: vs, 0 => ⟨_, .refl _⟩
  | d :: ds, v :: vs, n + 1 => by
    obtain ⟨r, p⟩ := ents_take (m := m) (ds := ds) (vs := vs) (n := n)
    exact ⟨r, p.cons _⟩
theorem ents_drop {m : M} : ∀ {ds : Dat} {vs : List V} {n : Nat}, ∃ r, (ents m ds vs).Perm (ents m (ds.drop n) (vs.drop n) ++ r)
  | [], vs, n => ⟨[], by cases vs <;> simp [ents]⟩
  | _ :: _, [], n => ⟨[], by cases n <;> simp [ents]⟩
  | d :: ds, v :: vs, 0 => ⟨[], by simp⟩
  | d :: ds, v :: vs, n + 1 => by
    obtain ⟨r, p⟩ := ents_drop (m := m) (ds := ds) (vs := vs) (n := n)
    refine ⟨⟨m, d, some v⟩ :: r, ?_⟩
    show List.Perm (⟨m, d, some v⟩ :: ents m ds vs) (ents m (ds.drop n) (vs.drop n) ++ ⟨m, d, some v⟩ :: r)
    exact (p.cons _).trans List.perm_middle.symm
theorem ents_cut {m : M} {ds : Dat} {vs : List V} (l : vs.length = ds.length) (lo hi : Option Int) : ∃ r, (ents m ds vs).Perm (ents m (cut ds lo hi) (cutV vs lo hi) ++ r) := by
  unfold cut cutV
  rw [l]
  obtain ⟨r1, p1⟩ := ents_drop (m := m) (ds := ds) (vs := vs) (n := HT.sIx ds.length 0 lo)
  obtain ⟨r2, p2⟩ := ents_take (m := m) (ds := ds.drop (HT.sIx ds.length 0 lo)) (vs := vs.drop (HT.sIx ds.length 0 lo)) (n := HT.sIx ds.length ds.length hi - HT.sIx ds.length 0 lo)
  refine ⟨r2 ++ r1, p1.trans ?_⟩
  rw [← List.append_assoc]
  exact p2.append_right _
section
variable {c : Cfg} {Ω : Str → FSem} {tc : SigT} {H0 B B' H H' : Hp} {Δ Δ' : List M} {ρ ρ' : Dat} {σ σ' : List (Option V)} {T T' fr : List En} {e : En} {m : M} {d : D} {ds : Dat} {v : V} {vs : List V} {ov : Option V} {i : Nat} {p : Addr}
theorem SA.isRefL (h : SA c H0 B H Δ ρ σ (⟨m, .lst ds, some v⟩ :: T) fr) (hm : m ≠ .dead) : ∃ p vs, v = .ref p ∧ SqL c.K H p vs ∧ vs.length = ds.length ∧ SA c H0 B H Δ ρ σ (ents m.inner ds vs ++ T) fr := by
  obtain ⟨p, vs, e, s, l, q⟩ := h.openL hm
  cases e
  exact ⟨p, vs, rfl, s, l, q⟩
theorem SA.isRefT (h : SA c H0 B H Δ ρ σ (⟨m, .tup ds, some v⟩ :: T) fr) (hm : m ≠ .dead) : ∃ p vs, v = .ref p ∧ SqT c.K H p vs ∧ vs.length = ds.length ∧ SA c H0 B H Δ ρ σ (ents m ds vs ++ T) fr := by
  obtain ⟨p, vs, e, s, l, q⟩ := h.openT hm
  cases e
  exact ⟨p, vs, rfl, s, l, q⟩
/-- all that is imm may be told as owned -/
theorem SA.imms (h : SA c H0 B H Δ ρ σ (ents m ds vs ++ T) fr) (hm : m ≠ .dead) (l : vs.length = ds.length) (hi : D.imms ds = true) : Reps c B H ds .deep vs [] ∧ SA c H0 B H Δ ρ σ (ents .deep ds vs ++ T) fr := by
  obtain ⟨_, L2, h1, h2, nd, f0, fb⟩ := h.app.ex
  obtain ⟨L3, L4, rfl, h3, h4⟩ := EnRs.append.mp h1
  obtain ⟨rfl, r⟩ := Reps.imm (H' := H) (m' := .deep) hi ((ents_iff hm l).mp h3)
  refine ⟨r, ⟨?_, h.l1, h.l2⟩⟩
  rw [List.append_assoc]
  exact ⟨⟨L4, L2, EnRs.append.mpr ⟨[], L4, rfl, (ents_iff (m := .deep) (fun z => nomatch z) l).mpr r, h4⟩, h2, nd, f0, fb⟩, h.ha.bh, h.ha.h0, h.ha.nb⟩
theorem SA.toInner (h : SA c H0 B H Δ ρ σ (⟨m, d, some v⟩ :: T) fr) (hm : m ≠ .dead) : ∃ B', Ex B B' ∧ SA c H0 B' H Δ ρ σ (⟨m.inner, d, some v⟩ :: T) fr := by
  cases m with
  | shal => exact h.freeze rfl
  | dead => exact absurd rfl hm
  | deep => exact ⟨B, Ex.rfl', h⟩
  | frz => exact ⟨B, Ex.rfl', h⟩
  | bor => exact ⟨B, Ex.rfl', h⟩
theorem se_ix {a i : IE} (ha : SE c Ω tc a) (hi : SE c Ω tc i) : SE c Ω tc (.ix a i) := by
  intro X mc W C e h
  unfold matchE matchX at h
  split at h
  · obtain ⟨h, h3⟩ := and_of h
    obtain ⟨h1, h2⟩ := and_of h
    refine PE.imp (pe_ix ix_seq (ha X mc W C _ h2) (hi X mc W C _ h3) (plainIx_of h1)) fun σ H Q q => ?_
    obtain ⟨H0, B, Δ, ρ, T, fr, m, Δ', Qd, Xd, sa, ty, wp, xc, k⟩ := q
    simp only [tyE] at ty
    obtain ⟨ma, Δ1, t1, ty⟩ := bind1 ty
    obtain ⟨mb, Δ2, t2, ty⟩ := bind1 ty
    obtain ⟨y1, hy1, ty⟩ := bindO ty
    obtain ⟨y2, hy2, ty9⟩ := bindO ty
    cases one_of hy1
    cases one_of hy2
    split at ty9
    · cases ty9
    rename_i nd
    cases ty9
    refine ⟨H0, B, Δ, ρ, T, fr, y1, _, _, Xd, sa, t1, wp, xc, fun d1 ρ1 w1 v1 B1 H1 b1 g1 sa1 n1 => ?_⟩
    refine ⟨H0, B1, _, ρ1, _, fr, y2, _, _, Xd, sa1, t2, w1, xc.step1 b1 g1, fun d2 ρ2 w2 v2 B2 H2 b2 g2 sa2 n2 => ?_⟩
    obtain ⟨j, rfl, w3⟩ := asI_of w2
    obtain rfl := sa2.isInt n2
    have sa3 := sa2.drop
    unfold itemD at w3
    split at w3
    · split at w3
      · rename_i xs _ d hd
        obtain ⟨p, vs, rfl, s, l, q⟩ := sa3.isRefL n1
        obtain ⟨n, w, e1, e2, e3⟩ := atI_same hd l
        rw [C.k] at s
        exact .inl ⟨p, vs, j, w, rfl, rfl, s, e3, k d ρ2 w3.2 w B2 H2 (b1.tr b2) (g1.tr g2) (q.pick e1 e2) (M.inner_live n1)⟩
      · exact w3.elim
    · split at w3
      · rename_i xs _ d hd
        obtain ⟨p, vs, rfl, s, l, q⟩ := sa3.isRefT n1
        obtain ⟨n, w, e1, e2, e3⟩ := atI_same hd l
        rw [C.k] at s
        obtain ⟨B3, b3, q3⟩ := (q.pick e1 e2).toInner n1
        exact .inr (.inl ⟨p, vs, j, w, rfl, rfl, s, e3, k d ρ2 w3.2 w B3 H2 ((b1.tr b2).tr b3) (g1.tr g2) q3 (M.inner_live n1)⟩)
      · exact w3.elim
    · split at w3
      · rename_i z _ cc hd
        obtain rfl := sa3.isStr n1
        exact .inr (.inr ⟨z, j, cc, rfl, rfl, LIM_line w3.1, hd, k _ ρ2 w3.2 _ B2 H2 (b1.tr b2) (g1.tr g2) (sa3.drop.scal (M.inner_live n1) rep_str) (M.inner_live n1)⟩)
      · exact w3.elim
    · exact w3.elim
  · cases h
/-- a part of a slice -/
def tOe (c : Cfg) (Ω : Str → FSem) (tc : SigT) (W : WX) (ie : IE) : TO := fun σ H Q => ∃ H0 B Δ ρ T fr ms Δ', ∃ (Qd : Option Int → Dat → Prop) (Xd : XPost),
  SA c H0 B H Δ ρ σ T fr ∧ tyE tc ie Δ = some (ms, Δ') ∧ (isNil ie = false → ms.length = 1) ∧ wpE Ω ie ρ (fun x ρ' => asO (isNil ie) x fun o => Qd o ρ') Xd ∧ XC c tc W Xd H0 B H σ T fr ∧
  ∀ o ρ', Qd o ρ' → ∀ B' H', Ex B B' → Ex H H' → SA c H0 B' H' Δ' ρ' σ T fr → Q o H'
theorem PO.imp {X : Cx} {e : Option Expr} {t t' : TO} (h : PO X e t) (i : ∀ σ H Q, t' σ H Q → t σ H Q) : PO X e t' := ⟨fun pins s σ H Q I q => h.run pins s σ H Q I (i σ H Q q)⟩
def SO (c : Cfg) (Ω : Str → FSem) (tc : SigT) (ie : IE) : Prop := ∀ X mc W, Ctx X c Ω tc mc W → ∀ e, matchO mc ie e = true → PO X e (tOe c Ω tc W ie)
theorem so_any {ie : IE} (ha : SE c Ω tc ie) : SO c Ω tc ie := by
  intro X mc W C e h
  by_cases hn : ie = .nil
  · subst hn
    cases e with
    | some _ => cases h
    | none =>
      refine PO.imp po_none fun σ H Q q => ?_
      obtain ⟨H0, B, Δ, ρ, T, fr, ms, Δ', Qd, Xd, sa, ty, tl, wp, xc, k⟩ := q
      cases ty
      exact k none ρ wp B H Ex.rfl' Ex.rfl' sa
  · have hn' : isNil ie = false := by cases ie <;> first | rfl | exact absurd rfl hn
    have h' : optE (isNil ie) (fun z => matchX mc ie false z z) e = true := h
    rw [hn'] at h'
    cases e with
    | none => cases h'
    | some x =>
      have hx : matchE mc ie x = true := (and_of (show (!false && matchX mc ie false x x) = true from h')).2
      refine PO.imp (po_some (ha X mc W C x hx)) fun σ H Q q => ?_
      obtain ⟨H0, B, Δ, ρ, T, fr, ms, Δ', Qd, Xd, sa, ty, tl, wp, xc, k⟩ := q
      have l1 := tl hn'
      obtain ⟨m, rfl⟩ : ∃ m, ms = [m] := by
        cases ms with
        | nil => cases l1
        | cons m r =>
          cases r with
          | nil => exact ⟨m, rfl⟩
          | cons _ _ => simp at l1
      refine ⟨H0, B, Δ, ρ, T, fr, m, Δ', _, Xd, sa, ty, wp, xc, fun d ρ1 w1 v B1 H1 b1 g1 sa1 n1 => ?_⟩
      unfold asO at w1
      rw [hn', if_neg Bool.false_ne_true] at w1
      split at w1
      · obtain rfl := sa1.isInt n1
        exact ⟨_, rfl, k _ ρ1 w1 B1 H1 b1 g1 sa1.drop⟩
      · exact w1.elim
end
end FM

set_option Elab.async false
set_option linter.all false
set_option maxRecDepth 100000
namespace FM
open PySem L2
theorem ents_app {m : M} : ∀ {ds es : Dat} {vs us : List V}, vs.length = ds.length → ents m (ds ++ es) (vs ++ us) = ents m ds vs ++ ents m es us
  | [], es, [], us, _ => by
    show ents m es us = ents m [] [] ++ ents m es us
    rfl
  | [], _, _ :: _, _, h => by simp at h
  | _ :: _, _, [], _, h => by simp at h
  | d :: ds, es, v :: vs, us, h => by
    show ⟨m, d, some v⟩ :: ents m (ds ++ es) (vs ++ us) = ⟨m, d, some v⟩ :: (ents m ds vs ++ ents m es us)
    rw [ents_app (by simpa using h)]
theorem Reps.app {c : Cfg} {B H : Hp} {m : M} : ∀ {ds es : Dat} {vs us : List V}, Reps c B H ds m vs [] → Reps c B H es m us [] → Reps c B H (ds ++ es) m (vs ++ us) []
  | [], es, vs, us, h1, h2 => by
    rw [(Reps.nil_iff.mp h1).1]
    exact h2
  | d :: ds, es, vs, us, h1, h2 => by
    obtain ⟨v, vs', L1, L2, rfl, e, r1, r2⟩ := Reps.cons_iff.mp h1
    obtain ⟨rfl, rfl⟩ := List.append_eq_nil_iff.mp e.symm
    exact Reps.cons_iff.mpr ⟨v, vs' ++ us, [], [], rfl, rfl, r1, Reps.app r2 h2⟩
theorem Reps.rep {c : Cfg} {B H : Hp} {m : M} {ds : Dat} {vs : List V} (h : Reps c B H ds m vs []) : ∀ n, Reps c B H (List.replicate n ds).flatten m (List.replicate n vs).flatten []
  | 0 => Reps.nil_iff.mpr ⟨rfl, rfl⟩
  | n + 1 => by
    rw [List.replicate_succ, List.replicate_succ, List.flatten_cons, List.flatten_cons]
    exact Reps.app h (Reps.rep h n)
section
variable {c : Cfg} {Ω : Str → FSem} {tc : SigT} {H0 B B' H H' : Hp} {Δ Δ' : List M} {ρ ρ' : Dat} {σ σ' : List (Option V)} {T T' fr : List En} {e : En} {m m' : M} {d : D} {ds es : Dat} {v : V} {vs us : List V} {ov : Option V} {i : Nat} {p : Addr}
theorem SA.immM (h : SA c H0 B H Δ ρ σ (⟨m, d, some v⟩ :: T) fr) (hm : m ≠ .dead) (hi : d.imm = true) (hm' : m' ≠ .dead) : SA c H0 B H Δ ρ σ (⟨m', d, some v⟩ :: T) fr := by
  obtain ⟨w, L, e, r⟩ := h.rep hm (by rintro rfl; cases hi)
  cases e
  obtain ⟨_, r'⟩ := Rep.imm (H' := H) (m' := m') hi r
  exact h.drop.scal hm' r'
theorem SA.addI (h : SA c H0 B H Δ ρ σ T fr) (hm : m ≠ .dead) (r : Reps c B H ds m vs []) : SA c H0 B H Δ ρ σ (ents m ds vs ++ T) fr := by
  obtain ⟨L1, L2, h1, h2, nd, f0, fb⟩ := h.ha.ex
  refine ⟨?_, h.l1, h.l2⟩
  rw [List.append_assoc]
  exact ⟨⟨L1, L2, EnRs.append.mpr ⟨[], L1, rfl, (ents_iff hm (Reps.len r)).mpr r, h1⟩, h2, nd, f0, fb⟩, h.ha.bh, h.ha.h0, h.ha.nb⟩
theorem SA.immsM (h : SA c H0 B H Δ ρ σ (ents m ds vs ++ T) fr) (hm : m ≠ .dead) (l : vs.length = ds.length) (hi : D.imms ds = true) (hm' : m' ≠ .dead) : SA c H0 B H Δ ρ σ (ents m' ds vs ++ T) fr := by
  obtain ⟨r, _⟩ := h.imms hm l hi
  obtain ⟨_, r'⟩ := Reps.imm (H' := H) (m' := m') hi r
  exact (h.drops).addI hm' r'
/-- the mode of a new list that holds what a thing of this mode held -/
def M.newOf : M → M
  | .deep => .deep
  | _ => .shal
theorem SA.newL' (h : SA c H0 B H Δ ρ σ (ents m.inner ds vs ++ T) fr) (hm : m = .deep ∨ m = .shal ∨ m = .frz) (hl : vs.length = ds.length) (n : H p = none) : SA c H0 B (upd H p (.lst vs)) Δ ρ σ (⟨m.newOf, .lst ds, some (.ref p)⟩ :: T) fr := by
  rcases hm with rfl | rfl | rfl
  · exact SA.newL (m := .deep) h (.inl rfl) hl n
  · exact SA.newL (m := .shal) h (.inr rfl) hl n
  · exact SA.newL (m := .shal) h (.inr rfl) hl n
theorem SA.newLi (h : SA c H0 B H Δ ρ σ (ents m ds vs ++ T) fr) (hm : m ≠ .dead) (hl : vs.length = ds.length) (hi : D.imms ds = true) (n : H p = none) : SA c H0 B (upd H p (.lst vs)) Δ ρ σ (⟨.deep, .lst ds, some (.ref p)⟩ :: T) fr :=
  SA.newL (m := .deep) (h.immsM hm hl hi (m' := .deep) (fun z => nomatch z)) (.inl rfl) hl n
theorem SA.newTi (h : SA c H0 B H Δ ρ σ (ents m ds vs ++ T) fr) (hm : m ≠ .dead) (hl : vs.length = ds.length) (hi : D.imms ds = true) (n : H p = none) (hm' : m' ≠ .dead) : Ex B (upd B p (.tup vs)) ∧ SA c H0 (upd B p (.tup vs)) (upd H p (.tup vs)) Δ ρ σ (⟨m', .tup ds, some (.ref p)⟩ :: T) fr :=
  SA.newT (m := m') (h.immsM hm hl hi hm') hm' hl n
theorem cut_whole {xs : Dat} {lo hi : Option Int} (h : HT.sIx xs.length 0 lo = 0 ∧ HT.sIx xs.length xs.length hi = xs.length) : cut xs lo hi = xs := by
  unfold cut
  rw [h.1, h.2]
  simp
theorem len1_of {ie : IE} {ms : List M} (h : ¬ (isNil ie = false ∧ ms.length ≠ 1)) (hn : isNil ie = false) : ms.length = 1 := by
  by_cases q : ms.length = 1
  · exact q
  · exact absurd ⟨hn, q⟩ h
/-- the mode of a slice -/
def slM (im : Bool) : M → Option M
  | .deep => some .deep
  | .shal | .frz => some (if im = true then .deep else .shal)
  | .bor => if im = true then some .deep else none
  | .dead => none
theorem ty_slc {im : Bool} {a lo hi : IE} {m : M} (h : tyE tc (.slc im a lo hi) Δ = some ([m], Δ')) : ∃ x Δ1 ml Δ2 mh, tyE tc a Δ = some ([x], Δ1) ∧ tyE tc lo Δ1 = some (ml, Δ2) ∧ tyE tc hi Δ2 = some (mh, Δ') ∧ (isNil lo = false → ml.length = 1) ∧ (isNil hi = false → mh.length = 1) ∧
    ((im = true ∧ m = .deep) ∨ (im = false ∧ m = x.newOf ∧ (x = .deep ∨ x = .shal ∨ x = .frz))) := by
  simp only [tyE] at h
  obtain ⟨ma, Δ1, t1, h⟩ := bind1 h
  obtain ⟨ml, Δ2, t2, h⟩ := bind1 h
  obtain ⟨mh, Δ3, t3, h⟩ := bind1 h
  obtain ⟨y1, hy1, ty9⟩ := bindO h
  cases one_of hy1
  split at ty9
  · cases ty9
  rename_i hc
  dsimp only at hc
  have c1 : isNil lo = false → ml.length = 1 := fun hn => len1_of (fun q => hc (.inl q)) hn
  have c2 : isNil hi = false → mh.length = 1 := fun hn => len1_of (fun q => hc (.inr q)) hn
  split at ty9
  · rename_i him
    cases ty9
    exact ⟨y1, _, ml, _, mh, t1, t2, t3, c1, c2, .inl ⟨him, rfl⟩⟩
  · rename_i him
    have him' : im = false := by cases im <;> simp_all
    split at ty9
    · cases ty9
      exact ⟨_, _, ml, _, mh, t1, t2, t3, c1, c2, .inr ⟨him', rfl, .inl rfl⟩⟩
    · cases ty9
      exact ⟨_, _, ml, _, mh, t1, t2, t3, c1, c2, .inr ⟨him', rfl, .inr (.inl rfl)⟩⟩
    · cases ty9
      exact ⟨_, _, ml, _, mh, t1, t2, t3, c1, c2, .inr ⟨him', rfl, .inr (.inr rfl)⟩⟩
    · cases ty9
theorem newOf_live {m : M} : m.newOf ≠ .dead := by cases m <;> exact fun z => nomatch z
theorem se_slc (im : Bool) {a lo hi : IE} (ha : SE c Ω tc a) (hl : SO c Ω tc lo) (hh : SO c Ω tc hi) : SE c Ω tc (.slc im a lo hi) := by
  intro X mc W C e h
  unfold matchE matchX at h
  split at h
  · obtain ⟨h, h3⟩ := and_of h
    obtain ⟨h1, h2⟩ := and_of h
    refine PE.imp (pe_slice (sl_list.or (sl_tupA.or sl_str)) (ha X mc W C _ h1) (hl X mc W C _ h2) (hh X mc W C _ h3)) fun σ H Q q => ?_
    obtain ⟨H0, B, Δ, ρ, T, fr, m, Δ', Qd, Xd, sa, ty, wp, xc, k⟩ := q
    obtain ⟨y1, Δ1, ml, Δ2, mh, t1, t2, t3, c1, c2, hm⟩ := ty_slc ty
    have ml : m ≠ .dead := by
      rcases hm with ⟨_, rfl⟩ | ⟨_, rfl, _⟩
      · exact fun z => nomatch z
      · exact newOf_live
    refine ⟨H0, B, Δ, ρ, T, fr, y1, _, _, Xd, sa, t1, wp, xc, fun d1 ρ1 w1 v1 B1 H1 b1 g1 sa1 n1 => ?_⟩
    refine ⟨H0, B1, _, ρ1, _, fr, _, Δ2, _, Xd, sa1, t2, c1, w1, xc.step1 b1 g1, fun o1 ρ2 w2 B2 H2 b2 g2 sa2 => ?_⟩
    refine ⟨H0, B2, _, ρ2, _, fr, mh, _, _, Xd, sa2, t3, c2, w2, xc.step1 (b1.tr b2) (g1.tr g2), fun o2 ρ3 w3 B3 H3 b3 g3 sa3 => ?_⟩
    have bb := (b1.tr b2).tr b3
    have gg := (g1.tr g2).tr g3
    unfold slcD at w3
    split at w3
    · rename_i xs
      obtain ⟨p, vs, rfl, s, l, q⟩ := sa3.isRefL n1
      rw [C.k] at s
      refine .inl ⟨p, vs, rfl, s, fun p' np => ?_⟩
      obtain ⟨r, pm⟩ := ents_cut (m := y1.inner) l o1 o2
      have q1 : SA c H0 B3 H3 Δ' ρ3 σ (ents y1.inner (cut xs o1 o2) (cutV vs o1 o2) ++ T) fr := by
        have q2 := q.perm (pm.append_right T)
        have q3 : SA c H0 B3 H3 Δ' ρ3 σ (r ++ (ents y1.inner (cut xs o1 o2) (cutV vs o1 o2) ++ T)) fr := q2.perm (by
          rw [← List.append_assoc]
          exact (List.perm_append_comm).append_right T)
        exact q3.drops
      refine k _ ρ3 w3.2 _ B3 _ bb (gg.tr (Ex.new np)) ?_ ml
      rcases hm with ⟨him, rfl⟩ | ⟨him, rfl, h3⟩
      · exact q1.newLi (M.inner_live n1) (cut_len l _ _) (imms_cut (w3.1 him)) np
      · exact q1.newL' h3 (cut_len l _ _) np
    · rename_i xs
      obtain ⟨p, vs, rfl, s, l, q⟩ := sa3.isRefT n1
      rw [C.k] at s
      refine .inr (.inl ⟨p, vs, rfl, s, fun hw => ?_, fun hw p' np => ?_⟩)
      · rw [l] at hw
        have e := cut_whole hw
        rw [e] at w3
        exact k _ ρ3 w3.2 _ B3 _ bb gg (sa3.immM n1 (show D.imms xs = true from w3.1) ml) ml
      · obtain ⟨r, pm⟩ := ents_cut (m := y1) l o1 o2
        have q1 : SA c H0 B3 H3 Δ' ρ3 σ (ents y1 (cut xs o1 o2) (cutV vs o1 o2) ++ T) fr := by
          have q2 := q.perm (pm.append_right T)
          have q3 : SA c H0 B3 H3 Δ' ρ3 σ (r ++ (ents y1 (cut xs o1 o2) (cutV vs o1 o2) ++ T)) fr := q2.perm (by
            rw [← List.append_assoc]
            exact (List.perm_append_comm).append_right T)
          exact q3.drops
        obtain ⟨b4, q4⟩ := q1.newTi n1 (cut_len l _ _) (imms_cut w3.1) np ml
        exact k _ ρ3 w3.2 _ _ _ (bb.tr b4) (gg.tr (Ex.new np)) q4 ml
    · rename_i z
      obtain rfl := sa3.isStr n1
      exact .inr (.inr ⟨z, rfl, LIM_line w3.1, k _ ρ3 w3.2 _ B3 H3 bb gg (sa3.drop.scal ml rep_str) ml⟩)
    · exact w3.elim
  · cases h
theorem se_catL (im : Bool) {a b : IE} (ha : SE c Ω tc a) (hb : SE c Ω tc b) : SE c Ω tc (.catL im a b) := by
  intro X mc W C e h
  unfold matchE matchX at h
  split at h
  · obtain ⟨h1, h2⟩ := and_of h
    refine PE.imp (pe_op op_catS (ha X mc W C _ h1) (hb X mc W C _ h2)) fun σ H Q q => ?_
    obtain ⟨H0, B, Δ, ρ, T, fr, m, Δ', Qd, Xd, sa, ty, wp, xc, k⟩ := q
    simp only [tyE] at ty
    obtain ⟨ma, Δ1, t1, ty⟩ := bind1 ty
    obtain ⟨mb, Δ2, t2, ty⟩ := bind1 ty
    obtain ⟨y1, hy1, ty⟩ := bindO ty
    obtain ⟨y2, hy2, ty9⟩ := bindO ty
    cases one_of hy1
    cases one_of hy2
    refine ⟨H0, B, Δ, ρ, T, fr, y1, _, _, Xd, sa, t1, wp, xc, fun d1 ρ1 w1 v1 B1 H1 b1 g1 sa1 n1 => ?_⟩
    refine ⟨H0, B1, _, ρ1, _, fr, y2, _, _, Xd, sa1, t2, w1, xc.step1 b1 g1, fun d2 ρ2 w2 v2 B2 H2 b2 g2 sa2 n2 => ?_⟩
    obtain ⟨xs, rfl, w3⟩ := asL_of w2
    obtain ⟨ys, rfl, w4⟩ := asL_of w3
    obtain ⟨p2, us, rfl, s2, l2, q2⟩ := sa2.isRefL n2
    have q2' : SA c H0 B2 H2 Δ2 ρ2 σ (⟨y1, .lst xs, some v1⟩ :: (ents y2.inner ys us ++ T)) fr := q2.perm List.perm_middle
    obtain ⟨p1, vs, rfl, s1, l1, q1⟩ := q2'.isRefL n1
    rw [C.k] at s1 s2
    refine ⟨p1, p2, vs, us, rfl, rfl, s1, s2, by rw [l1, l2]; exact LIM_line w4.1.1, fun p np => ?_⟩
    have el : (vs ++ us).length = (xs ++ ys).length := by simp [l1, l2]
    have gg := (g1.tr g2).tr (Ex.new (o := .lst (vs ++ us)) np)
    have fin : ∀ z : M, z.inner = y1.inner → z.inner = y2.inner → (z = .deep ∨ z = .shal ∨ z = .frz) → SA c H0 B2 (upd H2 p (.lst (vs ++ us))) Δ2 ρ2 σ (⟨z.newOf, .lst (xs ++ ys), some (.ref p)⟩ :: T) fr := fun z e1 e2 hz => by
      refine SA.newL' ?_ hz el np
      rw [ents_app l1, List.append_assoc]
      rw [← e2, ← e1] at q1
      exact q1
    split at ty9
    · rename_i him
      cases ty9
      obtain ⟨i1, i2⟩ := w4.1.2 him
      have r1 := (q1.imms (M.inner_live n1) l1 i1).1
      have r2 := (q2.imms (M.inner_live n2) l2 i2).1
      have q5 := (sa2.drop.drop).addI (m := .deep) (fun z => nomatch z) (Reps.app r1 r2)
      exact k _ ρ2 w4.2 _ B2 _ (b1.tr b2) gg (SA.newL (m := .deep) q5 (.inl rfl) el np) (fun z => nomatch z)
    · split at ty9
      · cases ty9
        exact k _ ρ2 w4.2 _ B2 _ (b1.tr b2) gg (fin .deep rfl rfl (.inl rfl)) (fun z => nomatch z)
      all_goals first
        | (cases ty9
           exact k _ ρ2 w4.2 _ B2 _ (b1.tr b2) gg (fin .shal rfl rfl (.inr (.inl rfl))) (fun z => nomatch z))
        | cases ty9
  · cases h
theorem se_catT {a b : IE} (ha : SE c Ω tc a) (hb : SE c Ω tc b) : SE c Ω tc (.catT a b) := by
  intro X mc W C e h
  unfold matchE matchX at h
  split at h
  · obtain ⟨h1, h2⟩ := and_of h
    refine PE.imp (pe_op op_catA (ha X mc W C _ h1) (hb X mc W C _ h2)) fun σ H Q q => ?_
    obtain ⟨H0, B, Δ, ρ, T, fr, m, Δ', Qd, Xd, sa, ty, wp, xc, k⟩ := q
    simp only [tyE] at ty
    obtain ⟨ma, Δ1, t1, ty⟩ := bind1 ty
    obtain ⟨mb, Δ2, t2, ty⟩ := bind1 ty
    obtain ⟨y1, hy1, ty⟩ := bindO ty
    obtain ⟨y2, hy2, ty9⟩ := bindO ty
    cases one_of hy1
    cases one_of hy2
    cases ty9
    refine ⟨H0, B, Δ, ρ, T, fr, y1, _, _, Xd, sa, t1, wp, xc, fun d1 ρ1 w1 v1 B1 H1 b1 g1 sa1 n1 => ?_⟩
    refine ⟨H0, B1, _, ρ1, _, fr, y2, _, _, Xd, sa1, t2, w1, xc.step1 b1 g1, fun d2 ρ2 w2 v2 B2 H2 b2 g2 sa2 n2 => ?_⟩
    obtain ⟨xs, rfl, w3⟩ := asT_of w2
    obtain ⟨ys, rfl, w4⟩ := asT_of w3
    obtain ⟨⟨hlim, i1, i2⟩, w5⟩ := w4
    obtain ⟨p2, us, rfl, s2, l2, q2⟩ := sa2.isRefT n2
    obtain ⟨p1, vs, rfl, s1, l1, q1⟩ := sa2.drop.isRefT n1
    rw [C.k] at s1 s2
    have r1 := (q1.imms n1 l1 i1).1
    have r2 := (q2.imms n2 l2 i2).1
    refine ⟨p1, p2, vs, us, rfl, rfl, s1, s2, by rw [l1, l2]; exact LIM_line hlim, fun ev => ?_, fun _ eu => ?_, fun _ _ p np => ?_⟩
    · subst ev
      have ex : xs = [] := List.length_eq_zero_iff.mp l1.symm
      subst ex
      exact k _ ρ2 w5 _ B2 H2 (b1.tr b2) (g1.tr g2) ((sa2.immE n2 (show D.imms ys = true from i2)).1.perm (List.Perm.swap ..)).drop (fun z => nomatch z)
    · subst eu
      have ey : ys = [] := List.length_eq_zero_iff.mp l2.symm
      subst ey
      rw [List.append_nil] at w5
      exact k _ ρ2 w5 _ B2 H2 (b1.tr b2) (g1.tr g2) (sa2.drop.immE n1 (show D.imms xs = true from i1)).1 (fun z => nomatch z)
    · have q5 := (sa2.drop.drop).addI (m := .deep) (fun z => nomatch z) (Reps.app r1 r2)
      obtain ⟨b4, q4⟩ := q5.newT (fun z => nomatch z) (by simp [l1, l2]) np
      exact k _ ρ2 w5 _ _ _ ((b1.tr b2).tr b4) ((g1.tr g2).tr (Ex.new np)) q4 (fun z => nomatch z)
  · cases h
theorem se_rep {a b : IE} (ha : SE c Ω tc a) (hb : SE c Ω tc b) : SE c Ω tc (.rep a b) := by
  intro X mc W C e h
  unfold matchE matchX at h
  split at h
  · obtain ⟨h1, h2⟩ := and_of h
    refine PE.imp (pe_op op_rep (ha X mc W C _ h1) (hb X mc W C _ h2)) fun σ H Q q => ?_
    obtain ⟨H0, B, Δ, ρ, T, fr, m, Δ', Qd, Xd, sa, ty, wp, xc, k⟩ := q
    simp only [tyE] at ty
    obtain ⟨ma, Δ1, t1, ty⟩ := bind1 ty
    obtain ⟨mb, Δ2, t2, ty⟩ := bind1 ty
    obtain ⟨y1, hy1, ty⟩ := bindO ty
    obtain ⟨y2, hy2, ty9⟩ := bindO ty
    cases one_of hy1
    cases one_of hy2
    split at ty9
    · rename_i e1
      subst e1
      cases ty9
      refine ⟨H0, B, Δ, ρ, T, fr, _, _, _, Xd, sa, t1, wp, xc, fun d1 ρ1 w1 v1 B1 H1 b1 g1 sa1 n1 => ?_⟩
      refine ⟨H0, B1, _, ρ1, _, fr, y2, _, _, Xd, sa1, t2, w1, xc.step1 b1 g1, fun d2 ρ2 w2 v2 B2 H2 b2 g2 sa2 n2 => ?_⟩
      obtain ⟨xs, rfl, w3⟩ := asL_of w2
      obtain ⟨j, rfl, w4⟩ := asI_of w3
      obtain ⟨⟨⟨j1, j2⟩, hlim, hi⟩, w5⟩ := w4
      obtain rfl := sa2.isInt n2
      obtain ⟨p1, vs, e1, hp, l1, q1⟩ := sa2.drop.openC (.inl rfl)
      cases e1
      have r1 := (SA.imms (m := .deep) (T := ⟨.deep, .lst (holes vs.length), some (.ref p1)⟩ :: T) q1 (fun z => nomatch z) l1 hi).1
      refine ⟨p1, j, vs, rfl, rfl, hp, Int.le_trans (by decide) j1, Int.lt_of_le_of_lt j2 (by decide), by rw [l1]; exact LIM_line hlim, fun p np => ?_⟩
      have r2 := Reps.rep r1 j.toNat
      have q5 := (sa2.drop.drop).addI (m := .deep) (fun z => nomatch z) r2
      exact k _ ρ2 w5 _ B2 _ (b1.tr b2) ((g1.tr g2).tr (Ex.new np)) (SA.newL (m := .deep) q5 (.inl rfl) (Reps.len r2) np) (fun z => nomatch z)
    · cases ty9
  · cases h
end
end FM

set_option Elab.async false
set_option linter.all false
set_option maxRecDepth 100000
namespace FM
open PySem L2
theorem Reps.ints {c : Cfg} {B H : Hp} {m : M} : ∀ {ds : Dat} {vs : List V} {L : List Addr} {ns : List Int}, Reps c B H ds m vs L → intsOf ds = some ns → vs = ns.map V.int
  | [], _, _, _, h, e => by
    cases e
    rw [(Reps.nil_iff.mp h).1]; rfl
  | d :: ds, _, _, ns, h, e => by
    obtain ⟨v, vs', L1, L2, rfl, rfl, h1, h2⟩ := Reps.cons_iff.mp h
    cases d with
    | int i =>
      obtain ⟨ms, e1, rfl⟩ := Option.map_eq_some_iff.mp (show (intsOf ds).map (i :: ·) = some ns from e)
      unfold Rep at h1
      rw [h1.2, Reps.ints h2 e1]; rfl
    | _ => cases e
theorem Reps.bls {c : Cfg} {B H : Hp} {m : M} : ∀ {ds : Dat} {vs : List V} {L : List Addr} {ns : List Bool}, Reps c B H ds m vs L → blsOf ds = some ns → vs = ns.map V.bl
  | [], _, _, _, h, e => by
    cases e
    rw [(Reps.nil_iff.mp h).1]; rfl
  | d :: ds, _, _, ns, h, e => by
    obtain ⟨v, vs', L1, L2, rfl, rfl, h1, h2⟩ := Reps.cons_iff.mp h
    cases d with
    | bl i =>
      obtain ⟨ms, e1, rfl⟩ := Option.map_eq_some_iff.mp (show (blsOf ds).map (i :: ·) = some ns from e)
      unfold Rep at h1
      rw [h1.2, Reps.bls h2 e1]; rfl
    | _ => cases e
section
variable {c : Cfg} {Ω : Str → FSem} {tc : SigT} {H0 B B' H H' : Hp} {Δ Δ' : List M} {ρ ρ' : Dat} {σ σ' : List (Option V)} {T T' fr : List En} {e : En} {m m' : M} {d : D} {ds es : Dat} {v : V} {vs us : List V} {ov : Option V} {i : Nat} {p : Addr}
theorem SA.repsL (h : SA c H0 B H Δ ρ σ (ents m ds vs ++ T) fr) (hm : m ≠ .dead) (l : vs.length = ds.length) : ∃ L, Reps c B H ds m vs L := by
  obtain ⟨_, L2, h1, h2, nd, f0, fb⟩ := h.app.ex
  obtain ⟨L3, L4, rfl, h3, h4⟩ := EnRs.append.mp h1
  exact ⟨L3, (ents_iff hm l).mp h3⟩
theorem SA.intsL {ns : List Int} (h : SA c H0 B H Δ ρ σ (⟨m, .lst ds, some v⟩ :: T) fr) (hm : m ≠ .dead) (e : intsOf ds = some ns) : ∃ p, v = .ref p ∧ SqL c.K H p (ns.map V.int) := by
  obtain ⟨p, vs, rfl, s, l, q⟩ := h.isRefL hm
  obtain ⟨L, r⟩ := q.repsL (M.inner_live hm) l
  rw [Reps.ints r e] at s
  exact ⟨p, rfl, s⟩
theorem SA.blsL {ns : List Bool} (h : SA c H0 B H Δ ρ σ (⟨m, .lst ds, some v⟩ :: T) fr) (hm : m ≠ .dead) (e : blsOf ds = some ns) : ∃ p, v = .ref p ∧ SqL c.K H p (ns.map V.bl) := by
  obtain ⟨p, vs, rfl, s, l, q⟩ := h.isRefL hm
  obtain ⟨L, r⟩ := q.repsL (M.inner_live hm) l
  rw [Reps.bls r e] at s
  exact ⟨p, rfl, s⟩
theorem BF.nm_ne : ∀ f : BF, f.nm ≠ "__name__" := by
  intro f
  cases f <;> dsimp only [BF.nm] <;> decide
theorem blt_pe {X : Cx} {mc : MC} {W : WX} (C : Ctx X c Ω tc mc W) {x : Str} {p pos : Pos} {y : Expr} {ys : List Expr} {t : TA} {u : Value} {r : List V → Hp → VK → Prop} (hc : CallR X u r) (hv : bootBuiltins x = some u) (hk : (∃ id, u = .builtin id) ∨ ∃ T, u = .type T)
    (hx : x ∈ (["len", "abs", "min", "max", "sum", "any", "all", "int", "str", "list", "tuple", "range", "zip", "enumerate", "reversed", "isinstance", "sorted", "dict", "set", "bool", "ValueError"] : List Str)) (hn : x ≠ "__name__")
    (hg : globOk mc x = true) (hs : (y :: ys).all notStar = true) (ha : PA X (y :: ys) t) : PE X (.Call (.Name x p) (y :: ys) [] pos) (tCB r t) := by
  obtain ⟨g, db⟩ := glob_of C hg
  rw [List.all_cons] at hs
  obtain ⟨s1, s2⟩ := and_of hs
  rcases hk with ⟨id, rfl⟩ | ⟨T, rfl⟩
  · exact pe_callB hc g (C.bt x hx) hv ha hn db (star_of s1) (noStars s2)
  · exact pe_callTy hc g (C.bt x hx) hv ha hn db (star_of s1) (noStars s2)
/-- args, then a value without an owner -/
theorem tA_val {r ie : IE} {W : WX} {σ : L2.St} {H : Hp} {Q : VK} {R : List V → Hp → Prop} (q : tE c Ω tc W ie σ H Q) (k1 : Dat → (D → Prop) → Prop)
    (hty : ∀ Δ, tyE tc ie Δ = (tyE tc r Δ).bind fun (ma, Δ1) => some ([.deep], Δ1))
    (hwp : ∀ ρ Q X, wpE Ω ie ρ Q X = wpE Ω r ρ (fun x ρ1 => asT x fun xs => k1 xs fun z => Q z ρ1) X)
    (fin : ∀ xs K, k1 xs K → ∀ H0 B H Δ ρ T fr ms vs, SA c H0 B H Δ ρ σ (entsM ms xs vs ++ T) fr → vs.length = ms.length → xs.length = ms.length → (∀ m ∈ ms, m ≠ .dead) →
      (∀ d, K d → ∀ w, Rep c B H d .deep w [] → Q w H) → R vs H) :
    tAr c Ω tc W r σ H R := by
  obtain ⟨H0, B, Δ, ρ, T, fr, m, Δ', Qd, Xd, sa, ty, wp, xc, k⟩ := q
  rw [hty] at ty
  obtain ⟨ms, Δ1, h1, ty⟩ := bind1 ty
  cases ty
  rw [hwp] at wp
  refine ⟨H0, B, Δ, ρ, T, fr, ms, _, fun xs ρ1 => k1 xs fun z => Qd z ρ1, Xd, sa, h1, wp, xc, fun ds ρ1 w1 vs B1 H1 b1 g1 sa1 l1 l2 n1 => ?_⟩
  refine fin ds _ w1 H0 B1 H1 _ ρ1 T fr ms vs sa1 l1 l2 n1 fun d hd w r => ?_
  exact k d ρ1 hd w B1 H1 b1 g1 ((sa1.drops).scal (fun z => nomatch z) r) (fun z => nomatch z)
theorem ar1 {ms : List M} {vs : List V} (l1 : vs.length = ms.length) (l2 : 1 = ms.length) : ∃ m v, ms = [m] ∧ vs = [v] := by
  cases ms with
  | nil => simp at l2
  | cons m ms =>
    cases ms with
    | cons _ _ => simp at l2
    | nil =>
      cases vs with
      | nil => simp at l1
      | cons v vs =>
        cases vs with
        | nil => exact ⟨m, v, rfl, rfl⟩
        | cons _ _ => simp at l1
theorem ar2 {ms : List M} {vs : List V} (l1 : vs.length = ms.length) (l2 : 2 = ms.length) : ∃ m n v u, ms = [m, n] ∧ vs = [v, u] := by
  cases ms with
  | nil => simp at l2
  | cons m ms =>
    cases vs with
    | nil => simp at l1
    | cons v vs =>
      obtain ⟨n, u, rfl, rfl⟩ := ar1 (ms := ms) (vs := vs) (by simpa using l1) (by simp at l2; omega)
      exact ⟨m, n, v, u, rfl, rfl⟩
theorem boot_of {x : Str} {u : Value} (h : (bootBuiltins x == some u) = true) : bootBuiltins x = some u := beq_iff_eq.mp h
theorem ty_conv {r : IE} {im : Bool} {mx : M → Option M} {m : M} {o : Option (List M × List M)}
    (h : (o.bind fun (ms, Δ1) => if im = true then some ([.deep], Δ1) else (one? ms).bind fun x => (mx x).map fun y => ([y], Δ1)) = some ([m], Δ')) : ∃ ms, o = some (ms, Δ') ∧ ((im = true ∧ m = .deep) ∨ (im = false ∧ ∃ x, ms = [x] ∧ mx x = some m)) := by
  obtain ⟨ms, Δ1, h1, ty⟩ := bind1 h
  dsimp only at ty
  by_cases him : im = true
  · rw [if_pos him] at ty
    cases ty
    exact ⟨ms, h1, .inl ⟨him, rfl⟩⟩
  · rw [if_neg him] at ty
    obtain ⟨x, hx, ty⟩ := bindO ty
    obtain ⟨y, hy, e⟩ := Option.map_eq_some_iff.mp ty
    cases e
    exact ⟨ms, h1, .inr ⟨by cases im <;> simp_all, x, one_of hx, hy⟩⟩
def mList : M → Option M
  | .deep => some .deep
  | .shal | .frz => some .shal
  | _ => none
def mTup : M → Option M
  | .deep => some .deep
  | .shal | .frz => some .frz
  | _ => none
theorem mList_of {x m : M} (h : mList x = some m) : m = x.newOf ∧ (x = .deep ∨ x = .shal ∨ x = .frz) := by
  cases x <;> first | (cases h; simp [M.newOf]) | cases h
theorem mTup_of {x m : M} (h : mTup x = some m) : m = x.inner ∧ x ≠ .dead ∧ (x = .deep ∨ x = .shal ∨ x = .frz) := by
  cases x <;> first | (cases h; simp [M.inner]) | cases h
theorem se_blt (f : BF) {r : IE} (hr : SAr c Ω tc r) : SE c Ω tc (.blt f r) := by
  intro X mc W C e h
  unfold matchE matchX at h
  split at h
  · rename_i x p y ys pos
    obtain ⟨h, h3⟩ := and_of h
    obtain ⟨h1, h2⟩ := and_of h
    have ex := of_decide_eq_true h1
    obtain ⟨ns, pa⟩ := hr X mc W C _ h3
    subst ex
    have key : ∀ {u : Value} {rr : List V → Hp → VK → Prop}, CallR X u rr → bootBuiltins f.nm = some u → ((∃ id, u = .builtin id) ∨ ∃ T, u = .type T) → (∀ σ H Q, tE c Ω tc W (.blt f r) σ H Q → tCB rr (tAr c Ω tc W r) σ H Q) → PE X (.Call (.Name f.nm p) (y :: ys) [] pos) (tE c Ω tc W (.blt f r)) := fun {u rr} hc hv hk i =>
      PE.imp (blt_pe C hc hv hk (by cases f <;> simp [BF.nm]) f.nm_ne h2 ns pa) i
    have val : ∀ {u : Value} {rr : List V → Hp → VK → Prop}, CallR X u rr → bootBuiltins f.nm = some u → ((∃ id, u = .builtin id) ∨ ∃ T, u = .type T) → (∀ Δ, tyE tc (.blt f r) Δ = (tyE tc r Δ).bind fun (ma, Δ1) => some ([.deep], Δ1)) →
        (∀ (Q : VK) (σ : L2.St) xs K, bltD f xs K → ∀ H0 B H Δ ρ T fr ms vs, SA c H0 B H Δ ρ σ (entsM ms xs vs ++ T) fr → vs.length = ms.length → xs.length = ms.length → (∀ m ∈ ms, m ≠ .dead) → (∀ d, K d → ∀ w, Rep c B H d .deep w [] → Q w H) → rr vs H Q) → PE X (.Call (.Name f.nm p) (y :: ys) [] pos) (tE c Ω tc W (.blt f r)) := fun {u rr} hc hv hk hty fin =>
      key hc hv hk fun σ H Q q => tA_val q (bltD f) hty (fun _ _ _ => rfl) (fin Q σ)
    have K' := C.k
    cases f with
    | len =>
      refine val (call_len_seq.or call_len_str) boot_len (.inl ⟨_, rfl⟩) (fun _ => rfl) fun Q σ xs K w H0 B H Δ ρ T fr ms vs sa l1 l2 n1 kk => ?_
      unfold bltD at w
      split at w <;> first | contradiction | skip
      · obtain ⟨m, v, rfl, rfl⟩ := ar1 l1 l2
        obtain ⟨p, us, rfl, s, l, q⟩ := SA.isRefL sa (n1 m List.mem_cons_self)
        rw [K'] at s
        refine .inl ⟨p, us, rfl, .inl s, ?_⟩
        rw [l]
        exact kk _ w _ rep_int
      · obtain ⟨m, v, rfl, rfl⟩ := ar1 l1 l2
        obtain ⟨p, us, rfl, s, l, q⟩ := SA.isRefT sa (n1 m List.mem_cons_self)
        rw [K'] at s
        refine .inl ⟨p, us, rfl, .inr s, ?_⟩
        rw [l]
        exact kk _ w _ rep_int
      · obtain ⟨m, v, rfl, rfl⟩ := ar1 l1 l2
        obtain rfl := SA.isStr sa (n1 m List.mem_cons_self)
        exact .inr ⟨_, rfl, LIM_line w.1, kk _ w.2 _ rep_int⟩
    | abs =>
      refine val call_abs (by decide +kernel) (.inl ⟨_, rfl⟩) (fun _ => rfl) fun Q σ xs K w H0 B H Δ ρ T fr ms vs sa l1 l2 n1 kk => ?_
      unfold bltD at w
      split at w <;> first | contradiction | skip
      obtain ⟨m, v, rfl, rfl⟩ := ar1 l1 l2
      obtain rfl := SA.isInt sa (n1 m List.mem_cons_self)
      exact ⟨_, rfl, kk _ w _ rep_int⟩
    | min2 =>
      refine val (call_min2 C.calm) (by decide +kernel) (.inl ⟨_, rfl⟩) (fun _ => rfl) fun Q σ xs K w H0 B H Δ ρ T fr ms vs sa l1 l2 n1 kk => ?_
      unfold bltD at w
      split at w <;> first | contradiction | skip
      obtain ⟨m, n, v, u, rfl, rfl⟩ := ar2 l1 l2
      obtain rfl := SA.isInt sa (n1 m List.mem_cons_self)
      obtain rfl := SA.isInt (SA.drop sa) (n1 n (List.mem_cons_of_mem _ List.mem_cons_self))
      exact ⟨_, _, rfl, kk _ w _ rep_int⟩
    | max2 =>
      refine val (call_max2 C.calm) (by decide +kernel) (.inl ⟨_, rfl⟩) (fun _ => rfl) fun Q σ xs K w H0 B H Δ ρ T fr ms vs sa l1 l2 n1 kk => ?_
      unfold bltD at w
      split at w <;> first | contradiction | skip
      obtain ⟨m, n, v, u, rfl, rfl⟩ := ar2 l1 l2
      obtain rfl := SA.isInt sa (n1 m List.mem_cons_self)
      obtain rfl := SA.isInt (SA.drop sa) (n1 n (List.mem_cons_of_mem _ List.mem_cons_self))
      exact ⟨_, _, rfl, kk _ w _ rep_int⟩
    | maxL =>
      refine val (cr_max C.calm) (by decide +kernel) (.inl ⟨_, rfl⟩) (fun _ => rfl) fun Q σ xs K w H0 B H Δ ρ T fr ms vs sa l1 l2 n1 kk => ?_
      unfold bltD at w
      split at w <;> first | contradiction | skip
      obtain ⟨m, v, rfl, rfl⟩ := ar1 l1 l2
      split at w
      · rename_i ns hn
        obtain ⟨p, rfl, s⟩ := SA.intsL sa (n1 m List.mem_cons_self) hn
        rw [K'] at s
        exact ⟨p, ns, rfl, s, w.1, fun z h1 h2 => kk _ (w.2 z h1 h2) _ rep_int⟩
      · exact w.elim
    | sum =>
      refine val (cr_sum C.calm) (by decide +kernel) (.inl ⟨_, rfl⟩) (fun _ => rfl) fun Q σ xs K w H0 B H Δ ρ T fr ms vs sa l1 l2 n1 kk => ?_
      unfold bltD at w
      split at w <;> first | contradiction | skip
      obtain ⟨m, v, rfl, rfl⟩ := ar1 l1 l2
      split at w
      · rename_i ns hn
        obtain ⟨p, rfl, s⟩ := SA.intsL sa (n1 m List.mem_cons_self) hn
        rw [K'] at s
        exact ⟨p, ns, rfl, s, kk _ w _ rep_int⟩
      · exact w.elim
    | any =>
      refine val (cr_any C.calm) (by decide +kernel) (.inl ⟨_, rfl⟩) (fun _ => rfl) fun Q σ xs K w H0 B H Δ ρ T fr ms vs sa l1 l2 n1 kk => ?_
      unfold bltD at w
      split at w <;> first | contradiction | skip
      obtain ⟨m, v, rfl, rfl⟩ := ar1 l1 l2
      split at w
      · rename_i ns hn
        obtain ⟨p, rfl, s⟩ := SA.blsL sa (n1 m List.mem_cons_self) hn
        rw [K'] at s
        exact ⟨p, ns, rfl, s, kk _ w _ rep_bl⟩
      · exact w.elim
    | all =>
      refine val (cr_all C.calm) (by decide +kernel) (.inl ⟨_, rfl⟩) (fun _ => rfl) fun Q σ xs K w H0 B H Δ ρ T fr ms vs sa l1 l2 n1 kk => ?_
      unfold bltD at w
      split at w <;> first | contradiction | skip
      obtain ⟨m, v, rfl, rfl⟩ := ar1 l1 l2
      split at w
      · rename_i ns hn
        obtain ⟨p, rfl, s⟩ := SA.blsL sa (n1 m List.mem_cons_self) hn
        rw [K'] at s
        exact ⟨p, ns, rfl, s, kk _ w _ rep_bl⟩
      · exact w.elim
    | toInt =>
      refine val call_int1 (by decide +kernel) (.inr ⟨_, rfl⟩) (fun _ => rfl) fun Q σ xs K w H0 B H Δ ρ T fr ms vs sa l1 l2 n1 kk => ?_
      unfold bltD at w
      split at w <;> first | contradiction | skip
      · obtain ⟨m, v, rfl, rfl⟩ := ar1 l1 l2
        obtain rfl := SA.isInt sa (n1 m List.mem_cons_self)
        exact .inl ⟨_, rfl, kk _ w _ rep_int⟩
      · obtain ⟨m, v, rfl, rfl⟩ := ar1 l1 l2
        obtain rfl := SA.isBl sa (n1 m List.mem_cons_self)
        exact .inr ⟨_, rfl, kk _ w _ rep_int⟩
    | toStr =>
      refine val call_str_int (by decide +kernel) (.inr ⟨_, rfl⟩) (fun _ => rfl) fun Q σ xs K w H0 B H Δ ρ T fr ms vs sa l1 l2 n1 kk => ?_
      unfold bltD at w
      split at w <;> first | contradiction | skip
      obtain ⟨m, v, rfl, rfl⟩ := ar1 l1 l2
      obtain rfl := SA.isInt sa (n1 m List.mem_cons_self)
      exact ⟨_, rfl, w.1, kk _ w.2 _ rep_str⟩
    | toList im =>
      refine key call_list_of (show bootBuiltins "list" = _ by decide +kernel) (.inr ⟨_, rfl⟩) fun σ H Q q => ?_
      obtain ⟨H0, B, Δ, ρ, T, fr, m, Δ', Qd, Xd, sa, ty, wp, xc, k⟩ := q
      have ty' : ((tyE tc r Δ).bind fun (ms, Δ1) => if im = true then some ([.deep], Δ1) else (one? ms).bind fun x => (mList x).map fun y => ([y], Δ1)) = some ([m], Δ') := by
        rw [← ty]
        simp only [tyE]
        congr 1; funext ⟨ms, Δ1⟩; dsimp only
        split
        · rfl
        · congr 1; funext x; cases x <;> rfl
      obtain ⟨ms, t1, hm⟩ := ty_conv (r := r) ty'
      have ml : m ≠ .dead := by
        rcases hm with ⟨_, rfl⟩ | ⟨_, x, _, hx⟩
        · exact fun z => nomatch z
        · rw [(mList_of hx).1]; exact newOf_live
      refine ⟨H0, B, Δ, ρ, T, fr, ms, _, fun xs ρ1 => bltD (.toList im) xs fun z => Qd z ρ1, Xd, sa, t1, wp, xc, fun ds ρ1 w vs B1 H1 b1 g1 sa1 l1 l2 n1 => ?_⟩
      dsimp only at w
      unfold bltD at w
      split at w <;> first | contradiction | skip
      · rename_i i1 xs i2 
        obtain ⟨m1, v, rfl, rfl⟩ := ar1 l1 l2
        obtain ⟨p, us, rfl, s, l, q⟩ := SA.isRefL sa1 (n1 m1 List.mem_cons_self)
        rw [K'] at s
        refine ⟨p, us, rfl, .inl s, fun p' np => k _ ρ1 w.2 _ B1 _ b1 (g1.tr (Ex.new np)) ?_ ml⟩
        rcases hm with ⟨him, rfl⟩ | ⟨_, x, ex, hx⟩
        · cases i2
          exact q.newLi (M.inner_live (n1 m1 List.mem_cons_self)) l (w.1 him) np
        · cases ex
          obtain ⟨rfl, hz⟩ := mList_of hx
          exact SA.newL' q hz l np
      · rename_i i1 xs i2
        obtain ⟨m1, v, rfl, rfl⟩ := ar1 l1 l2
        obtain ⟨p, us, rfl, s, l, q⟩ := SA.isRefT sa1 (n1 m1 List.mem_cons_self)
        rw [K'] at s
        rcases hm with ⟨him, rfl⟩ | ⟨_, x, ex, hx⟩
        · refine ⟨p, us, rfl, .inr s, fun p' np => k _ ρ1 w.2 _ B1 _ b1 (g1.tr (Ex.new np)) ?_ ml⟩
          cases i2
          exact q.newLi (n1 m1 List.mem_cons_self) l (w.1 him) np
        · cases ex
          obtain ⟨rfl, hz⟩ := mList_of hx
          rcases hz with rfl | rfl | rfl
          · exact ⟨p, us, rfl, .inr s, fun p' np => k _ ρ1 w.2 _ B1 _ b1 (g1.tr (Ex.new np)) (SA.newL' (m := .deep) q (.inl rfl) l np) ml⟩
          · obtain ⟨B2, b2, q2⟩ := SA.freezes rfl q
            exact ⟨p, us, rfl, .inr s, fun p' np => k _ ρ1 w.2 _ B2 _ (b1.tr b2) (g1.tr (Ex.new np)) (SA.newL' (m := .shal) q2 (.inr (.inl rfl)) l np) ml⟩
          · exact ⟨p, us, rfl, .inr s, fun p' np => k _ ρ1 w.2 _ B1 _ b1 (g1.tr (Ex.new np)) (SA.newL' (m := .frz) q (.inr (.inr rfl)) l np) ml⟩
    | toTup im =>
      refine key call_tuple_of (show bootBuiltins "tuple" = _ by decide +kernel) (.inr ⟨_, rfl⟩) fun σ H Q q => ?_
      obtain ⟨H0, B, Δ, ρ, T, fr, m, Δ', Qd, Xd, sa, ty, wp, xc, k⟩ := q
      have ty' : ((tyE tc r Δ).bind fun (ms, Δ1) => if im = true then some ([.deep], Δ1) else (one? ms).bind fun x => (mTup x).map fun y => ([y], Δ1)) = some ([m], Δ') := by
        rw [← ty]
        simp only [tyE]
        congr 1; funext ⟨ms, Δ1⟩; dsimp only
        split
        · rfl
        · congr 1; funext x; cases x <;> rfl
      obtain ⟨ms, t1, hm⟩ := ty_conv (r := r) ty'
      have ml : m ≠ .dead := by
        rcases hm with ⟨_, rfl⟩ | ⟨_, x, _, hx⟩
        · exact fun z => nomatch z
        · rw [(mTup_of hx).1]; exact M.inner_live (mTup_of hx).2.1
      refine ⟨H0, B, Δ, ρ, T, fr, ms, _, fun xs ρ1 => bltD (.toTup im) xs fun z => Qd z ρ1, Xd, sa, t1, wp, xc, fun ds ρ1 w vs B1 H1 b1 g1 sa1 l1 l2 n1 => ?_⟩
      dsimp only at w
      unfold bltD at w
      split at w <;> first | contradiction | skip
      · rename_i i1 xs i2
        obtain ⟨m1, v, rfl, rfl⟩ := ar1 l1 l2
        obtain ⟨p, us, rfl, s, l, q⟩ := SA.isRefL sa1 (n1 m1 List.mem_cons_self)
        rw [K'] at s
        refine ⟨p, us, rfl, .inl ⟨s, fun p' np => ?_⟩⟩
        rcases hm with ⟨him, rfl⟩ | ⟨_, x, ex, hx⟩
        · cases i2
          obtain ⟨b4, q4⟩ := q.newTi (M.inner_live (n1 m1 List.mem_cons_self)) l (w.1 him) np (m' := .deep) (fun z => nomatch z)
          exact k _ ρ1 w.2 _ _ _ (b1.tr b4) (g1.tr (Ex.new np)) q4 ml
        · cases ex
          obtain ⟨rfl, hd, hz⟩ := mTup_of hx
          obtain ⟨b4, q4⟩ := q.newT (M.inner_live hd) l np
          exact k _ ρ1 w.2 _ _ _ (b1.tr b4) (g1.tr (Ex.new np)) q4 ml
      · rename_i i1 xs i2
        obtain ⟨m1, v, rfl, rfl⟩ := ar1 l1 l2
        obtain ⟨p, us, rfl, s, l, q⟩ := SA.isRefT sa1 (n1 m1 List.mem_cons_self)
        rw [K'] at s
        refine ⟨p, us, rfl, .inr ⟨s, ?_⟩⟩
        rcases hm with ⟨him, rfl⟩ | ⟨_, x, ex, hx⟩
        · cases i2
          exact k _ ρ1 w.2 _ _ _ b1 g1 (SA.immM sa1 (n1 m1 List.mem_cons_self) (show D.imms xs = true from w.1 him) (m' := .deep) (fun z => nomatch z)) ml
        · cases ex
          obtain ⟨rfl, hd, hz⟩ := mTup_of hx
          obtain ⟨B2, b2, q2⟩ := SA.toInner sa1 hd
          exact k _ ρ1 w.2 _ B2 _ (b1.tr b2) g1 q2 ml
  · cases h
theorem reps_ints : ∀ ns : List Int, Reps c B H (ns.map D.int) m (ns.map V.int) []
  | [] => Reps.nil_iff.mpr ⟨rfl, rfl⟩
  | n :: ns => Reps.cons_iff.mpr ⟨_, _, [], [], rfl, rfl, rep_int, reps_ints ns⟩
theorem se_gint (x : Str) (n : Int) : SE c Ω tc (.gint x n) := by
  intro X mc W C e h
  unfold matchE matchX at h
  split at h
  · obtain ⟨h, h3⟩ := and_of h
    obtain ⟨h1, h2⟩ := and_of h
    obtain ⟨g, db⟩ := glob_of C h2
    obtain ⟨t, ht⟩ := C.gl _ n (of_decide_eq_true h3)
    refine PE.imp (pe_glob (v := .int n) g ht ⟨t, rfl⟩ db) fun σ H Q q => ?_
    obtain ⟨H0, B, Δ, ρ, T, fr, m, Δ', Qd, Xd, sa, ty, wp, xc, k⟩ := q
    simp only [tyE, Option.some.injEq, Prod.mk.injEq, List.cons.injEq, and_true] at ty
    obtain ⟨rfl, rfl⟩ := ty
    exact k _ _ wp _ B H Ex.rfl' Ex.rfl' (sa.scal (fun z => nomatch z) rep_int) (fun z => nomatch z)
  · cases h
theorem se_lrng1 {a : IE} (ha : SE c Ω tc a) : SE c Ω tc (.lrng1 a) := by
  intro X mc W C e h
  unfold matchE matchX at h
  split at h
  · obtain ⟨h, h6⟩ := and_of h
    obtain ⟨h, h5⟩ := and_of h
    obtain ⟨h, h4⟩ := and_of h
    obtain ⟨h, h3⟩ := and_of h
    obtain ⟨h1, h2⟩ := and_of h
    have e1 := of_decide_eq_true h1
    subst e1
    have e2 := of_decide_eq_true h3
    subst e2
    refine PE.imp (pe_listRg C.calm (glob_of C h2).1 (C.bt _ (by simp)) (prg_1 (glob_of C h4).1 (C.bt _ (by simp)) (ha X mc W C _ h6) (star_of h5)) rfl) fun σ H Q q => ?_
    obtain ⟨H0, B, Δ, ρ, T, fr, m, Δ', Qd, Xd, sa, ty, wp, xc, k⟩ := q
    simp only [tyE] at ty
    obtain ⟨ma, Δ1, t1, ty⟩ := bind1 ty
    obtain ⟨y, hy, ty9⟩ := bindO ty
    cases one_of hy
    cases ty9
    refine ⟨H0, B, Δ, ρ, T, fr, y, _, _, Xd, sa, t1, wp, xc, fun d ρ1 w1 v B1 H1 b1 g1 sa1 n1 => ?_⟩
    obtain ⟨n, rfl, ⟨⟨sm, sl⟩, w2⟩⟩ := asI_of w1
    obtain rfl := sa1.isInt n1
    have hb : (n - 0).toNat = n.toNat := by simp
    refine ⟨n, rfl, ⟨by decide, by decide, Int.le_trans (by decide) sm.1, Int.lt_of_le_of_lt sm.2 (by decide), by rw [hb]; exact Nat.le_trans sl (by decide)⟩, fun p np => ?_⟩
    have ev : rgV 0 n = ((List.range n.toNat).map fun k => ((k : Nat) : Int)).map V.int := by
      unfold rgV
      rw [List.map_map, hb]
      exact List.map_congr_left fun k _ => by simp
    have ed : ((List.range n.toNat).map fun k => D.int (k : Nat)) = ((List.range n.toNat).map fun k => ((k : Nat) : Int)).map D.int := by rw [List.map_map]; rfl
    rw [ed] at w2
    rw [ev]
    exact k _ ρ1 w2 _ B1 _ b1 (g1.tr (Ex.new np)) (SA.newL (m := .deep) (sa1.drop.addI (m := .deep) (fun z => nomatch z) (reps_ints _)) (.inl rfl) (by simp) np) (fun z => nomatch z)
  · cases h
theorem se_trng1 {a : IE} (ha : SE c Ω tc a) : SE c Ω tc (.trng1 a) := by
  intro X mc W C e h
  unfold matchE matchX at h
  split at h
  · obtain ⟨h, h6⟩ := and_of h
    obtain ⟨h, h5⟩ := and_of h
    obtain ⟨h, h4⟩ := and_of h
    obtain ⟨h, h3⟩ := and_of h
    obtain ⟨h1, h2⟩ := and_of h
    have e1 := of_decide_eq_true h1
    subst e1
    have e2 := of_decide_eq_true h3
    subst e2
    refine PE.imp (pe_tupRg C.calm (glob_of C h2).1 (C.bt _ (by simp)) (prg_1 (glob_of C h4).1 (C.bt _ (by simp)) (ha X mc W C _ h6) (star_of h5)) rfl) fun σ H Q q => ?_
    obtain ⟨H0, B, Δ, ρ, T, fr, m, Δ', Qd, Xd, sa, ty, wp, xc, k⟩ := q
    simp only [tyE] at ty
    obtain ⟨ma, Δ1, t1, ty⟩ := bind1 ty
    obtain ⟨y, hy, ty9⟩ := bindO ty
    cases one_of hy
    cases ty9
    refine ⟨H0, B, Δ, ρ, T, fr, y, _, _, Xd, sa, t1, wp, xc, fun d ρ1 w1 v B1 H1 b1 g1 sa1 n1 => ?_⟩
    obtain ⟨n, rfl, ⟨⟨sm, sl⟩, w2⟩⟩ := asI_of w1
    obtain rfl := sa1.isInt n1
    have hb : (n - 0).toNat = n.toNat := by simp
    refine ⟨n, rfl, ⟨by decide, by decide, Int.le_trans (by decide) sm.1, Int.lt_of_le_of_lt sm.2 (by decide), by rw [hb]; exact Nat.le_trans sl (by decide)⟩, fun p np => ?_⟩
    have ev : rgV 0 n = ((List.range n.toNat).map fun k => ((k : Nat) : Int)).map V.int := by
      unfold rgV
      rw [List.map_map, hb]
      exact List.map_congr_left fun k _ => by simp
    have ed : ((List.range n.toNat).map fun k => D.int (k : Nat)) = ((List.range n.toNat).map fun k => ((k : Nat) : Int)).map D.int := by rw [List.map_map]; rfl
    rw [ed] at w2
    rw [ev]
    obtain ⟨b7, sa7⟩ := SA.newT (m := .deep) (sa1.drop.addI (m := .deep) (fun z => nomatch z) (reps_ints _)) (fun z => nomatch z) (by simp) np
    exact k _ ρ1 w2 _ _ _ (b1.tr b7) (g1.tr (Ex.new np)) sa7 (fun z => nomatch z)
  · cases h
end
end FM

set_option Elab.async false
set_option linter.all false
set_option maxRecDepth 100000
namespace FM
open PySem L2
/-- the iterator gives these items, in any world that holds the base -/
def ItOk (c : Cfg) (J : It) (ds : Dat) (Bs : Hp) : Prop := ∀ B2 H2, Ex Bs B2 → Ex B2 H2 → ∀ i, (∀ d, ds[i]? = some d → J.go i H2 ∧ ∀ x H3, J.yld i H2 x H3 → ∀ H0 es fr, HA c H0 B2 H2 es fr → ∃ B3, Ex B2 B3 ∧ Ex H2 H3 ∧ HA c H0 B3 H3 (⟨.frz, d, some x⟩ :: es) fr) ∧ (ds.length ≤ i → J.stop i H2)
theorem Reps.get {c : Cfg} {B H : Hp} {m : M} (u : m.un = true) : ∀ {ds : Dat} {vs : List V} {L : List Addr} {i : Nat} {d : D}, Reps c B H ds m vs L → ds[i]? = some d → ∃ w, vs[i]? = some w ∧ Rep c B H d m w []
  | [], _, _, _, _, _, e => by simp at e
  | x :: ds, _, _, 0, d, h, e => by
    obtain ⟨v, vs', L1, L2, rfl, rfl, h1, h2⟩ := Reps.cons_iff.mp h
    simp at e
    subst e
    have := Rep.unL u h1
    subst this
    exact ⟨v, rfl, h1⟩
  | x :: ds, _, _, i + 1, d, h, e => by
    obtain ⟨v, vs', L1, L2, rfl, rfl, h1, h2⟩ := Reps.cons_iff.mp h
    obtain ⟨w, e1, r⟩ := Reps.get u (i := i) h2 (by simpa using e)
    exact ⟨w, by simpa using e1, r⟩
theorem frz_grow {B B2 H H2 : Hp} (b : Ex B B2) : Grow .frz B B2 H H2 [] := ⟨b, (fun _ z => nomatch z), (fun z => nomatch z)⟩
section
variable {c : Cfg} {Ω : Str → FSem} {tc : SigT} {H0 B B' Bs H H' : Hp} {Δ Δ' : List M} {ρ ρ' : Dat} {σ σ' : List (Option V)} {T T' fr : List En} {e : En} {m m' : M} {d : D} {ds es : Dat} {v : V} {vs us : List V} {ov : Option V} {i : Nat} {p q : Addr}
theorem itok_list {K : PySem.W.Frag} (hK : c.K = K) (s : SqL c.K Bs p vs) (r : Reps c Bs H ds .frz vs []) : ItOk c (Itl K p) ds Bs := by
  intro B2 H2 b bh i
  subst hK
  have s2 : SqL c.K H2 p vs := SqL.ex (b.tr bh) s
  refine ⟨fun d hd => ?_, fun hl => ⟨vs, s2, by rw [Reps.len r]; exact hl⟩⟩
  obtain ⟨w, e1, r1⟩ := Reps.get rfl r hd
  refine ⟨⟨vs, w, s2, e1⟩, ?_⟩
  rintro x H3 ⟨rfl, hx⟩ H0 es fr ha
  obtain rfl : w = x := Option.some.inj (e1.symm.trans (hx vs s2))
  exact ⟨B2, Ex.rfl', Ex.rfl', ha.scal (fun z => nomatch z) (Rep.mono (frz_grow b) r1)⟩
theorem itok_tup {K : PySem.W.Frag} (hK : c.K = K) (s : SqT c.K Bs p vs) (r : Reps c Bs H ds .frz vs []) : ItOk c (Itt K p) ds Bs := by
  intro B2 H2 b bh i
  subst hK
  have s2 : SqT c.K H2 p vs := SqT.ex (b.tr bh) s
  refine ⟨fun d hd => ?_, fun hl => ⟨vs, s2, by rw [Reps.len r]; exact hl⟩⟩
  obtain ⟨w, e1, r1⟩ := Reps.get rfl r hd
  refine ⟨⟨vs, w, s2, e1⟩, ?_⟩
  rintro x H3 ⟨rfl, hx⟩ H0 es fr ha
  obtain rfl : w = x := Option.some.inj (e1.symm.trans (hx vs s2))
  exact ⟨B2, Ex.rfl', Ex.rfl', ha.scal (fun z => nomatch z) (Rep.mono (frz_grow b) r1)⟩
theorem itok_str {z : Str} : ItOk c (Its z) (z.cps.toList.map fun n => .str ⟨#[n]⟩) Bs := by
  intro B2 H2 b bh i
  refine ⟨fun d hd => ?_, fun hl => (show z.cps.size ≤ i by simpa using hl)⟩
  rw [List.getElem?_map] at hd
  obtain ⟨n, e1, rfl⟩ := Option.map_eq_some_iff.mp hd
  have e2 : z.cps[i]? = some n := by simpa using e1
  have hi : i < z.cps.size := (Array.getElem?_eq_some_iff.mp e2).1
  refine ⟨hi, ?_⟩
  rintro x H3 ⟨rfl, n', e3, rfl⟩ H0 es fr ha
  obtain rfl : n = n' := Option.some.inj (e2.symm.trans e3)
  exact ⟨B2, Ex.rfl', Ex.rfl', ha.scal (fun z => nomatch z) rep_str⟩
theorem itok_rng {lo : Int} {n : Nat} : ItOk c (Itr lo n) ((List.range n).map fun k => .int (lo + (k : Nat))) Bs := by
  intro B2 H2 b bh i
  refine ⟨fun d hd => ?_, fun hl => (show n ≤ i by simpa using hl)⟩
  rw [List.getElem?_map] at hd
  obtain ⟨k, e1, rfl⟩ := Option.map_eq_some_iff.mp hd
  obtain ⟨hi, e2⟩ := List.getElem?_eq_some_iff.mp e1
  rw [List.getElem_range] at e2
  subst e2
  have hi : i < n := by simpa using hi
  refine ⟨hi, ?_⟩
  rintro x H3 ⟨rfl, rfl⟩ H0 es fr ha
  exact ⟨B2, Ex.rfl', Ex.rfl', ha.scal (fun z => nomatch z) rep_int⟩
theorem itok_rev {n : Nat} {lo : Int} (hlo : lo = (n : Int) - 1) : ItOk c (Itc lo (-1) n) ((List.range n).reverse.map fun k => .int (k : Nat)) Bs := by
  intro B2 H2 b bh i
  refine ⟨fun d hd => ?_, fun hl => (show n ≤ i by simpa using hl)⟩
  rw [List.getElem?_map] at hd
  obtain ⟨k, e1, rfl⟩ := Option.map_eq_some_iff.mp hd
  have hi : i < n := by
    have := (List.getElem?_eq_some_iff.mp e1).1
    simpa using this
  rw [List.getElem?_reverse (by simpa using hi)] at e1
  obtain ⟨_, e2⟩ := List.getElem?_eq_some_iff.mp e1
  rw [List.getElem_range] at e2
  subst e2
  refine ⟨hi, ?_⟩
  rintro x H3 ⟨rfl, rfl⟩ H0 es fr ha
  refine ⟨B2, Ex.rfl', Ex.rfl', ha.scal (fun z => nomatch z) ?_⟩
  have e : (((List.range n).length - 1 - i : Nat) : Int) = lo + (i : Int) * -1 := by
    rw [List.length_range, hlo]
    omega
  rw [e]
  exact rep_int
theorem itok_enum {K : PySem.W.Frag} (hK : c.K = K) (s : SqL c.K Bs p vs) (r : Reps c Bs H ds .frz vs []) : ItOk c (Ite K p) (ds.mapIdx fun k d => .tup [.int (k : Nat), d]) Bs := by
  intro B2 H2 b bh i
  subst hK
  have s2 : SqL c.K H2 p vs := SqL.ex (b.tr bh) s
  refine ⟨fun d hd => ?_, fun hl => ⟨vs, s2, by rw [Reps.len r]; simpa using hl⟩⟩
  rw [List.getElem?_mapIdx] at hd
  obtain ⟨d, e0, rfl⟩ := Option.map_eq_some_iff.mp hd
  obtain ⟨w, e1, r1⟩ := Reps.get rfl r e0
  refine ⟨⟨vs, w, s2, e1⟩, ?_⟩
  rintro x H3 ⟨t, y, rfl, nt, rfl, hx⟩ H0 es fr ha
  obtain rfl : w = y := Option.some.inj (e1.symm.trans (hx vs s2))
  have h1 := ha.scal (m := .frz) (fun z => nomatch z) (Rep.mono (frz_grow (H2 := H2) b) r1)
  have h2 := h1.scal (m := .frz) (d := .int (i : Nat)) (v := .int (i : Nat)) (fun z => nomatch z) rep_int
  obtain ⟨b3, h3⟩ := HA.newT (m := .frz) (ds := [.int (i : Nat), d]) (vs := [.int (i : Nat), w]) h2 (fun z => nomatch z) rfl nt
  exact ⟨_, b3, Ex.new nt, h3⟩
theorem itok_enumT {K : PySem.W.Frag} (hK : c.K = K) (s : SqT c.K Bs p vs) (r : Reps c Bs H ds .frz vs []) : ItOk c (Itet K p) (ds.mapIdx fun k d => .tup [.int (k : Nat), d]) Bs := by
  intro B2 H2 b bh i
  subst hK
  have s2 : SqT c.K H2 p vs := SqT.ex (b.tr bh) s
  refine ⟨fun d hd => ?_, fun hl => ⟨vs, s2, by rw [Reps.len r]; simpa using hl⟩⟩
  rw [List.getElem?_mapIdx] at hd
  obtain ⟨d, e0, rfl⟩ := Option.map_eq_some_iff.mp hd
  obtain ⟨w, e1, r1⟩ := Reps.get rfl r e0
  refine ⟨⟨vs, w, s2, e1⟩, ?_⟩
  rintro x H3 ⟨t, y, rfl, nt, rfl, hx⟩ H0 es fr ha
  obtain rfl : w = y := Option.some.inj (e1.symm.trans (hx vs s2))
  have h1 := ha.scal (m := .frz) (fun z => nomatch z) (Rep.mono (frz_grow (H2 := H2) b) r1)
  have h2 := h1.scal (m := .frz) (d := .int (i : Nat)) (v := .int (i : Nat)) (fun z => nomatch z) rep_int
  obtain ⟨b3, h3⟩ := HA.newT (m := .frz) (ds := [.int (i : Nat), d]) (vs := [.int (i : Nat), w]) h2 (fun z => nomatch z) rfl nt
  exact ⟨_, b3, Ex.new nt, h3⟩
theorem itok_zip {K : PySem.W.Frag} (hK : c.K = K) (s : SqL c.K Bs p vs) (r : Reps c Bs H ds .frz vs []) (s' : SqL c.K Bs q us) (r' : Reps c Bs H es .frz us []) : ItOk c (Itz K p q) (List.zipWith (fun a b => .tup [a, b]) ds es) Bs := by
  intro B2 H2 b bh i
  subst hK
  have s2 : SqL c.K H2 p vs := SqL.ex (b.tr bh) s
  have s3 : SqL c.K H2 q us := SqL.ex (b.tr bh) s'
  refine ⟨fun d hd => ?_, fun hl => ⟨vs, us, s2, s3, by rw [Reps.len r, Reps.len r']; rw [List.length_zipWith] at hl; omega⟩⟩
  obtain ⟨d1, d2, a1, a2, rfl⟩ := List.getElem?_zipWith_eq_some.mp hd
  obtain ⟨w1, e1, r1⟩ := Reps.get rfl r a1
  obtain ⟨w2, e2, r2⟩ := Reps.get rfl r' a2
  refine ⟨⟨vs, us, w1, w2, s2, s3, e1, e2⟩, ?_⟩
  rintro x H3 ⟨t, y1, y2, rfl, nt, rfl, hx, hy⟩ H0 es' fr ha
  obtain rfl : w1 = y1 := Option.some.inj (e1.symm.trans (hx vs s2))
  obtain rfl : w2 = y2 := Option.some.inj (e2.symm.trans (hy us s3))
  have h1 := ha.scal (m := .frz) (fun z => nomatch z) (Rep.mono (frz_grow (H2 := H2) b) r2)
  have h2 := h1.scal (m := .frz) (fun z => nomatch z) (Rep.mono (frz_grow (H2 := H2) b) r1)
  obtain ⟨b3, h3⟩ := HA.newT (m := .frz) (ds := [d1, d2]) (vs := [w1, w2]) h2 (fun z => nomatch z) rfl nt
  exact ⟨_, b3, Ex.new nt, h3⟩

/-! ### iterables as they are asked -/
def tI (c : Cfg) (Ω : Str → FSem) (tc : SigT) (W : WX) (it : IE) : TI := fun σ H R => ∃ H0 B Δ ρ T fr m Δ', ∃ (Qd : Dat → Dat → Prop) (Xd : XPost),
  SA c H0 B H Δ ρ σ T fr ∧ tyE tc it Δ = some ([m], Δ') ∧ wpE Ω it ρ (fun x ρ' => asL x fun ds => Qd ds ρ') Xd ∧ XC c tc W Xd H0 B H σ T fr ∧
  ∀ ds ρ', Qd ds ρ' → ∀ Ts B' H' J, Ex B B' → Ex H H' → SA c H0 B' H' Δ' ρ' σ (Ts ++ T) fr → m ≠ .dead → ItOk c J ds H' → (m = .frz → ItOk c J ds B') → R J H'
theorem PI.imp {X : Cx} {tg e : Expr} {t t' : TI} (h : PI X tg e t) (i : ∀ σ H R, t' σ H R → t σ H R) : PI X tg e t' := ⟨fun pins s σ H R I q => h.run pins s σ H R I (i σ H R q)⟩
def SI (c : Cfg) (Ω : Str → FSem) (tc : SigT) (it : IE) : Prop := ∀ X mc W, Ctx X c Ω tc mc W → ∀ t e, matchI mc it t e = true → PI X t e (tI c Ω tc W it)
/-- a list as a base: all the heap, or what is frozen -/
theorem SA.baseL (h : SA c H0 B H Δ ρ σ (⟨m, .lst ds, some v⟩ :: T) fr) (hm : m ≠ .dead) : ∃ p vs, v = .ref p ∧ SqL c.K H p vs ∧ Reps c H H ds .frz vs [] ∧ (m = .frz → ∃ us, SqL c.K B p us ∧ Reps c B H ds .frz us []) := by
  obtain ⟨p, vs, rfl, s, l, q⟩ := h.isRefL hm
  obtain ⟨L, r⟩ := q.repsL (M.inner_live hm) l
  refine ⟨p, vs, rfl, s, Reps.toH h.ha.bh r, fun hf => ?_⟩
  subst hf
  obtain ⟨w, L, e, r⟩ := h.rep hm (fun z => nomatch z)
  cases e
  unfold Rep at r
  obtain ⟨p', us, L', e, r, q1, q2⟩ := r
  cases e
  have := Reps.unL (m := M.inner .frz) rfl r
  subst this
  exact ⟨us, q2, r⟩
theorem SA.baseT (h : SA c H0 B H Δ ρ σ (⟨m, .tup ds, some v⟩ :: T) fr) (hm : m ≠ .dead) : ∃ p vs, v = .ref p ∧ SqT c.K H p vs ∧ Reps c H H ds .frz vs [] ∧ (m = .frz → ∃ us, SqT c.K B p us ∧ Reps c B H ds .frz us []) := by
  obtain ⟨p, vs, rfl, s, l, q⟩ := h.isRefT hm
  obtain ⟨L, r⟩ := q.repsL hm l
  refine ⟨p, vs, rfl, s, Reps.toH h.ha.bh r, fun hf => ?_⟩
  subst hf
  obtain ⟨w, L, e, r⟩ := h.rep hm (fun z => nomatch z)
  cases e
  unfold Rep at r
  obtain ⟨p', us, e, s', r⟩ := r
  cases e
  have := Reps.unL (m := .frz) rfl r
  subst this
  exact ⟨us, SqT.of s', r⟩
theorem si_any {it : IE} (ha : SE c Ω tc it) (hm : ∀ mc t e, matchI mc it t e = true → matchE mc it e = true) : SI c Ω tc it := by
  intro X mc W C t e h
  refine PI.imp (pi_list (ha X mc W C e (hm mc t e h))) fun σ H R q => ?_
  obtain ⟨H0, B, Δ, ρ, T, fr, m, Δ', Qd, Xd, sa, ty, wp, xc, k⟩ := q
  refine ⟨H0, B, Δ, ρ, T, fr, m, Δ', _, Xd, sa, ty, wp, xc, fun d ρ1 w1 v B1 H1 b1 g1 sa1 n1 => ?_⟩
  obtain ⟨ds, rfl, w1⟩ := asL_of w1
  obtain ⟨p, vs, rfl, s, r, f⟩ := sa1.baseL n1
  refine ⟨p, rfl, ⟨vs, by rw [← C.k]; exact s⟩, k _ ρ1 w1 [_] B1 H1 _ b1 g1 sa1 n1 (itok_list C.k s r) fun hf => ?_⟩
  obtain ⟨us, s', r'⟩ := f hf
  exact itok_list C.k s' r'
theorem si_itT {a : IE} (ha : SE c Ω tc a) : SI c Ω tc (.itT a) := by
  intro X mc W C t e h
  unfold matchI matchX at h
  refine PI.imp (pi_tup (ha X mc W C e (and_of h).2)) fun σ H R q => ?_
  obtain ⟨H0, B, Δ, ρ, T, fr, m, Δ', Qd, Xd, sa, ty, wp, xc, k⟩ := q
  simp only [tyE] at ty
  obtain ⟨ma, Δ1, t1, ty⟩ := bind1 ty
  obtain ⟨y, hy, ty9⟩ := bindO ty
  cases one_of hy
  split at ty9
  · cases ty9
    refine ⟨H0, B, Δ, ρ, T, fr, _, _, _, Xd, sa, t1, wp, xc, fun d ρ1 w1 v B1 H1 b1 g1 sa1 n1 => ?_⟩
    obtain ⟨ds, rfl, w1⟩ := asT_of w1
    obtain ⟨p, vs, rfl, s, r, f⟩ := sa1.baseT n1
    refine ⟨p, rfl, ⟨vs, by rw [← C.k]; exact s⟩, k _ ρ1 w1 [_] B1 H1 _ b1 g1 sa1 n1 (itok_tup C.k s r) fun hf => ?_⟩
    obtain ⟨us, s', r'⟩ := f hf
    exact itok_tup C.k s' r'
  · cases ty9
theorem asS_of {x : D} {K : Str → Prop} (h : asS x K) : ∃ i, x = .str i ∧ K i := by
  cases x <;> first | exact h.elim | exact ⟨_, rfl, h⟩
theorem si_itS {a : IE} (ha : SE c Ω tc a) : SI c Ω tc (.itS a) := by
  intro X mc W C t e h
  unfold matchI matchX at h
  refine PI.imp (pi_str (ha X mc W C e (and_of h).2)) fun σ H R q => ?_
  obtain ⟨H0, B, Δ, ρ, T, fr, m, Δ', Qd, Xd, sa, ty, wp, xc, k⟩ := q
  simp only [tyE] at ty
  obtain ⟨ma, Δ1, t1, ty⟩ := bind1 ty
  obtain ⟨y, hy, ty9⟩ := bindO ty
  cases one_of hy
  cases ty9
  refine ⟨H0, B, Δ, ρ, T, fr, _, _, _, Xd, sa, t1, wp, xc, fun d ρ1 w1 v B1 H1 b1 g1 sa1 n1 => ?_⟩
  obtain ⟨z, rfl, w1⟩ := asS_of w1
  obtain rfl := sa1.isStr n1
  exact ⟨_, rfl, k _ ρ1 w1 [_] B1 H1 _ b1 g1 sa1 (fun z => nomatch z) itok_str fun _ => itok_str⟩
theorem Ctx.bt' {X : Cx} {mc : MC} {W : WX} (C : Ctx X c Ω tc mc W) {x y : Str} (e : x = y) (hy : y ∈ (["len", "abs", "min", "max", "sum", "any", "all", "int", "str", "list", "tuple", "range", "zip", "enumerate", "reversed", "isinstance", "sorted", "dict", "set", "bool", "ValueError"] : List Str)) : X.mg x = none := by rw [e]; exact C.bt y hy
theorem small62 {i : Int} (h : small i) : -(2 ^ 62) ≤ i ∧ i < 2 ^ 62 := ⟨Int.le_trans (by decide) h.1, Int.lt_of_le_of_lt h.2 (by decide)⟩
theorem si_rng1 {a : IE} (ha : SE c Ω tc a) : SI c Ω tc (.rng1 a) := by
  intro X mc W C t e h
  unfold matchI matchX at h
  split at h
  · obtain ⟨h, h4⟩ := and_of h
    obtain ⟨h, h3⟩ := and_of h
    obtain ⟨h1, h2⟩ := and_of h
    have e1 := of_decide_eq_true h1
    subst e1
    refine PI.imp (pi_range1 (glob_of C h2).1 (C.bt _ (by simp)) (pa_cons (ha X mc W C _ h4) pa_nil (star_of h3)) (star_of h3)) fun σ H R q => ?_
    obtain ⟨H0, B, Δ, ρ, T, fr, m, Δ', Qd, Xd, sa, ty, wp, xc, k⟩ := q
    simp only [tyE] at ty
    obtain ⟨ma, Δ1, t1, ty⟩ := bind1 ty
    obtain ⟨y, hy, ty9⟩ := bindO ty
    cases one_of hy
    cases ty9
    refine ⟨H0, B, Δ, ρ, T, fr, y, _, _, Xd, sa, t1, wp, xc, fun d ρ1 w1 v B1 H1 b1 g1 sa1 n1 => ?_⟩
    obtain ⟨n, rfl, ⟨sm, w2⟩⟩ := asI_of w1
    obtain rfl := sa1.isInt n1
    have e0 : ((List.range n.toNat).map fun k => D.int (k : Nat)) = (List.range n.toNat).map fun k => D.int (0 + (k : Nat)) := by simp
    have w3 : Qd ((List.range n.toNat).map fun k => D.int (0 + (k : Nat))) ρ1 := by rw [← e0]; exact w2
    exact ⟨n, rfl, (small62 sm).1, (small62 sm).2, k _ ρ1 w3 [_] B1 H1 _ b1 g1 sa1 (fun z => nomatch z) itok_rng fun _ => itok_rng⟩
  · cases h
theorem si_rng2 {a b : IE} (ha : SE c Ω tc a) (hb : SE c Ω tc b) : SI c Ω tc (.rng2 a b) := by
  intro X mc W C t e h
  unfold matchI matchX at h
  split at h
  · obtain ⟨h, h6⟩ := and_of h
    obtain ⟨h, h5⟩ := and_of h
    obtain ⟨h, h4⟩ := and_of h
    obtain ⟨h, h3⟩ := and_of h
    obtain ⟨h1, h2⟩ := and_of h
    have e1 := of_decide_eq_true h1
    subst e1
    refine PI.imp (pi_range2 (glob_of C h2).1 (C.bt _ (by simp)) (pa_cons (ha X mc W C _ h5) (pa_cons (hb X mc W C _ h6) pa_nil (star_of h4)) (star_of h3)) (by rw [star_of h3, star_of h4]; rfl) (star_of h4)) fun σ H R q => ?_
    obtain ⟨H0, B, Δ, ρ, T, fr, m, Δ', Qd, Xd, sa, ty, wp, xc, k⟩ := q
    simp only [tyE] at ty
    obtain ⟨ma, Δ1, t1, ty⟩ := bind1 ty
    obtain ⟨mb, Δ2, t2, ty⟩ := bind1 ty
    obtain ⟨y, hy, ty⟩ := bindO ty
    obtain ⟨y2, hy2, ty9⟩ := bindO ty
    cases one_of hy
    cases one_of hy2
    cases ty9
    refine ⟨H0, B, Δ, ρ, T, fr, y, _, _, Xd, sa, t1, wp, xc, fun d ρ1 w1 v B1 H1 b1 g1 sa1 n1 => ?_⟩
    refine ⟨H0, B1, _, ρ1, _, fr, y2, _, _, Xd, sa1, t2, w1, xc.step1 b1 g1, fun d2 ρ2 w2 v2 B2 H2 b2 g2 sa2 n2 => ?_⟩
    obtain ⟨i, rfl, w3⟩ := asI_of w2
    obtain ⟨n, rfl, ⟨⟨sm1, sm2⟩, w4⟩⟩ := asI_of w3
    obtain ⟨rfl, rfl⟩ := sa2.isInt2 n1 n2
    exact ⟨i, n, rfl, ⟨(small62 sm1).1, (small62 sm1).2, (small62 sm2).1, (small62 sm2).2⟩, k _ ρ2 w4 [_, _] B2 H2 _ (b1.tr b2) (g1.tr g2) sa2 (fun z => nomatch z) itok_rng fun _ => itok_rng⟩
  · cases h
theorem si_revR {a : IE} (ha : SE c Ω tc a) : SI c Ω tc (.revR a) := by
  intro X mc W C t e h
  unfold matchI matchX at h
  split at h
  · obtain ⟨h, h6⟩ := and_of h
    obtain ⟨h, h5⟩ := and_of h
    obtain ⟨h, h4⟩ := and_of h
    obtain ⟨h, h3⟩ := and_of h
    obtain ⟨h1, h2⟩ := and_of h
    have e1 := of_decide_eq_true h1
    subst e1
    have e2 := of_decide_eq_true h3
    subst e2
    refine PI.imp (pi_revR (glob_of C h2).1 (C.bt _ (by simp)) (prg_1 (glob_of C h4).1 (C.bt _ (by simp)) (ha X mc W C _ h6) (star_of h5)) rfl) fun σ H R q => ?_
    obtain ⟨H0, B, Δ, ρ, T, fr, m, Δ', Qd, Xd, sa, ty, wp, xc, k⟩ := q
    simp only [tyE] at ty
    obtain ⟨ma, Δ1, t1, ty⟩ := bind1 ty
    obtain ⟨y, hy, ty9⟩ := bindO ty
    cases one_of hy
    cases ty9
    refine ⟨H0, B, Δ, ρ, T, fr, y, _, _, Xd, sa, t1, wp, xc, fun d ρ1 w1 v B1 H1 b1 g1 sa1 n1 => ?_⟩
    obtain ⟨n, rfl, ⟨sm, w2⟩⟩ := asI_of w1
    obtain rfl := sa1.isInt n1
    have hz : (n - 0).toNat = n.toNat := by simp
    refine ⟨n, rfl, by decide, by decide, (small62 sm).1, (small62 sm).2, ?_⟩
    rw [hz]
    exact k _ ρ1 w2 [_] B1 H1 _ b1 g1 sa1 (fun z => nomatch z) (itok_rev (by omega)) fun _ => itok_rev (by omega)
  · cases h
theorem tuple_of {t : Expr} (h : isTuple t = true) : ∃ es k p, t = .Tuple es k p := by
  cases t <;> first | exact ⟨_, _, _, rfl⟩ | cases h
theorem si_enm {a : IE} (ha : SE c Ω tc a) : SI c Ω tc (.enm a) := by
  intro X mc W C t e h
  unfold matchI matchX at h
  split at h
  · obtain ⟨h, h5⟩ := and_of h
    obtain ⟨h, h4⟩ := and_of h
    obtain ⟨h, h3⟩ := and_of h
    obtain ⟨h1, h2⟩ := and_of h
    have e1 := of_decide_eq_true h2
    subst e1
    obtain ⟨es, kk, tp, rfl⟩ := tuple_of h1
    refine PI.imp (pi_enum (glob_of C h3).1 (C.bt _ (by simp)) (pa_cons (ha X mc W C _ h5) pa_nil (star_of h4)) (star_of h4)) fun σ H R q => ?_
    obtain ⟨H0, B, Δ, ρ, T, fr, m, Δ', Qd, Xd, sa, ty, wp, xc, k⟩ := q
    simp only [tyE] at ty
    obtain ⟨ma, Δ1, t1, ty⟩ := bind1 ty
    obtain ⟨y, hy, ty9⟩ := bindO ty
    cases one_of hy
    split at ty9
    · rename_i nd
      have em : m = (if y = .frz then M.frz else M.bor) := by cases ty9; rfl
      have eD : Δ1 = Δ' := by cases ty9; rfl
      subst eD
      have ml : m ≠ .dead := by rw [em]; split <;> exact fun z => nomatch z
      refine ⟨H0, B, Δ, ρ, T, fr, y, _, _, Xd, sa, t1, wp, xc, fun d ρ1 w1 v B1 H1 b1 g1 sa1 n1 => ?_⟩
      obtain ⟨xs, rfl, w2⟩ := asL_of w1
      obtain ⟨p, vs, rfl, s, r, f⟩ := sa1.baseL n1
      refine ⟨p, vs, rfl, by rw [← C.k]; exact s, k _ ρ1 w2 [_] B1 H1 _ b1 g1 sa1 ml (itok_enum C.k s r) fun hf => ?_⟩
      have hy : y = .frz := by
        rw [em] at hf
        split at hf
        · assumption
        · cases hf
      obtain ⟨us, s', r'⟩ := f hy
      exact itok_enum C.k s' r'
    · cases ty9
  · cases h
theorem si_enmT {a : IE} (ha : SE c Ω tc a) : SI c Ω tc (.enmT a) := by
  intro X mc W C t e h
  unfold matchI matchX at h
  split at h
  · obtain ⟨h, h5⟩ := and_of h
    obtain ⟨h, h4⟩ := and_of h
    obtain ⟨h, h3⟩ := and_of h
    obtain ⟨h1, h2⟩ := and_of h
    have e1 := of_decide_eq_true h2
    subst e1
    obtain ⟨es, kk, tp, rfl⟩ := tuple_of h1
    refine PI.imp (pi_enumT (glob_of C h3).1 (C.bt _ (by simp)) (pa_cons (ha X mc W C _ h5) pa_nil (star_of h4)) (star_of h4)) fun σ H R q => ?_
    obtain ⟨H0, B, Δ, ρ, T, fr, m, Δ', Qd, Xd, sa, ty, wp, xc, k⟩ := q
    simp only [tyE] at ty
    obtain ⟨ma, Δ1, t1, ty⟩ := bind1 ty
    obtain ⟨y, hy, ty9⟩ := bindO ty
    cases one_of hy
    split at ty9
    · rename_i nd
      have em : m = (if y = .frz then M.frz else M.bor) := by cases ty9; rfl
      have eD : Δ1 = Δ' := by cases ty9; rfl
      subst eD
      have ml : m ≠ .dead := by rw [em]; split <;> exact fun z => nomatch z
      refine ⟨H0, B, Δ, ρ, T, fr, y, _, _, Xd, sa, t1, wp, xc, fun d ρ1 w1 v B1 H1 b1 g1 sa1 n1 => ?_⟩
      obtain ⟨xs, rfl, w2⟩ := asT_of w1
      obtain ⟨p, vs, rfl, s, r, f⟩ := sa1.baseT n1
      refine ⟨p, vs, rfl, by rw [← C.k]; exact s, k _ ρ1 w2 [_] B1 H1 _ b1 g1 sa1 ml (itok_enumT C.k s r) fun hf => ?_⟩
      have hy : y = .frz := by
        rw [em] at hf
        split at hf
        · assumption
        · cases hf
      obtain ⟨us, s', r'⟩ := f hy
      exact itok_enumT C.k s' r'
    · cases ty9
  · cases h
theorem si_zip {a b : IE} (ha : SE c Ω tc a) (hb : SE c Ω tc b) : SI c Ω tc (.zip a b) := by
  intro X mc W C t e h
  unfold matchI matchX at h
  split at h
  · obtain ⟨h, h7⟩ := and_of h
    obtain ⟨h, h6⟩ := and_of h
    obtain ⟨h, h5⟩ := and_of h
    obtain ⟨h, h4⟩ := and_of h
    obtain ⟨h, h3⟩ := and_of h
    obtain ⟨h1, h2⟩ := and_of h
    have e1 := of_decide_eq_true h2
    subst e1
    obtain ⟨es, kk, tp, rfl⟩ := tuple_of h1
    refine PI.imp (pi_zip (glob_of C h3).1 (C.bt _ (by simp)) (pa_cons (ha X mc W C _ h6) (pa_cons (hb X mc W C _ h7) pa_nil (star_of h5)) (star_of h4)) (star_of h4) (by rw [star_of h5]; rfl)) fun σ H R q => ?_
    obtain ⟨H0, B, Δ, ρ, T, fr, m, Δ', Qd, Xd, sa, ty, wp, xc, k⟩ := q
    simp only [tyE] at ty
    obtain ⟨ma, Δ1, t1, ty⟩ := bind1 ty
    obtain ⟨mb, Δ2, t2, ty⟩ := bind1 ty
    obtain ⟨y, hy, ty⟩ := bindO ty
    obtain ⟨y2, hy2, ty9⟩ := bindO ty
    cases one_of hy
    cases one_of hy2
    split at ty9
    · have em : m = (if y = .frz ∧ y2 = .frz then M.frz else M.bor) := by cases ty9; rfl
      have eD : Δ2 = Δ' := by cases ty9; rfl
      subst eD
      have ml : m ≠ .dead := by rw [em]; split <;> exact fun z => nomatch z
      refine ⟨H0, B, Δ, ρ, T, fr, y, _, _, Xd, sa, t1, wp, xc, fun d ρ1 w1 v B1 H1 b1 g1 sa1 n1 => ?_⟩
      refine ⟨H0, B1, _, ρ1, _, fr, y2, _, _, Xd, sa1, t2, w1, xc.step1 b1 g1, fun d2 ρ2 w2 v2 B2 H2 b2 g2 sa2 n2 => ?_⟩
      obtain ⟨xs, rfl, w3⟩ := asL_of w2
      obtain ⟨ys, rfl, w4⟩ := asL_of w3
      obtain ⟨q, us, rfl, s', r', f'⟩ := sa2.baseL n2
      obtain ⟨p, vs, rfl, s, r, f⟩ := (sa2.perm (List.Perm.swap ..)).baseL n1
      refine ⟨p, q, vs, us, rfl, by rw [← C.k]; exact s, by rw [← C.k]; exact s', k _ ρ2 w4 [_, _] B2 H2 _ (b1.tr b2) (g1.tr g2) sa2 ml (itok_zip C.k s r s' r') fun hf => ?_⟩
      have hy : y = .frz ∧ y2 = .frz := by
        rw [em] at hf
        split at hf
        · assumption
        · cases hf
      obtain ⟨us1, s1, r1⟩ := f hy.1
      obtain ⟨us2, s2, r2⟩ := f' hy.2
      exact itok_zip C.k s1 r1 s2 r2
    · cases ty9
  · cases h
end
end FM

set_option Elab.async false
set_option linter.all false
set_option maxRecDepth 100000
namespace FM
open PySem L2
/-! ## targets -/
def gNms : List Nat → TGs
  | [] => gNil
  | i :: is => gCons (gName i) (gNms is)
def gTg (K : PySem.W.Frag) : Tg → TG
  | .one i => gName i
  | .many is => gTup K is.length (gNms is)
def tgL : Tg → List Nat
  | .one i => [i]
  | .many is => is
def setV : List Nat → List V → List (Option V) → List (Option V)
  | i :: is, v :: vs, σ => setV is vs (σ.set i (some v))
  | _, _, σ => σ
theorem gNms_run : ∀ {is : List Nat} {vs : List V} {σ : L2.St} {H : Hp} {Q : L2.St → Hp → Prop}, vs.length = is.length → Q (setV is vs σ) H → gNms is vs σ H Q
  | [], [], _, _, _, _, h => ⟨rfl, h⟩
  | [], _ :: _, _, _, _, h, _ => by simp at h
  | _ :: _, [], _, _, _, h, _ => by simp at h
  | i :: is, v :: vs, σ, H, Q, l, h => ⟨v, vs, rfl, gNms_run (by simpa using l) h⟩
theorem wipe_set2 {σ : L2.St} {i : Nat} {x y : Option V} : ∀ {vs : List Nat}, (wipe (σ.set i x) vs).set i y = (wipe σ vs).set i y
  | [] => by show (σ.set i x).set i y = σ.set i y; rw [List.set_set]
  | v :: vs => by
    show ((wipe (σ.set i x) vs).set v none).set i y = ((wipe σ vs).set v none).set i y
    by_cases h : v = i
    · subst h
      rw [List.set_set, List.set_set]
      exact wipe_set2
    · rw [List.set_comm _ _ h, List.set_comm _ _ h, wipe_set2]
theorem wipe_set {σ : L2.St} {i : Nat} {x : Option V} : ∀ {vs : List Nat}, i ∈ vs → wipe (σ.set i x) vs = wipe σ vs
  | [], h => by simp at h
  | v :: vs, h => by
    show (wipe (σ.set i x) vs).set v none = (wipe σ vs).set v none
    rcases List.mem_cons.mp h with rfl | h
    · exact wipe_set2
    · rw [wipe_set h]
theorem wipe_setV : ∀ {is : List Nat} {us : List V} {σ : L2.St} {vs : List Nat}, (∀ i ∈ is, i ∈ vs) → wipe (setV is us σ) vs = wipe σ vs
  | [], us, σ, vs, _ => by cases us <;> rfl
  | _ :: _, [], _, _, _ => rfl
  | i :: is, u :: us, σ, vs, h => by
    show wipe (setV is us (σ.set i (some u))) vs = _
    rw [wipe_setV fun j hj => h j (List.mem_cons_of_mem _ hj), wipe_set (h i List.mem_cons_self)]
section
variable {c : Cfg} {Ω : Str → FSem} {tc : SigT} {H0 B B' Bs H H' : Hp} {Δ Δ' : List M} {ρ ρ' : Dat} {σ σ' : List (Option V)} {T T' fr es es' : List En} {e : En} {m m' : M} {d : D} {ds ds' : Dat} {v : V} {vs us : List V} {ov : Option V} {i : Nat} {p q : Addr}
theorem SA.putAny (h : SA c H0 B H Δ ρ σ (⟨m, d, ov⟩ :: T) fr) : SA c H0 B H (Δ.set i m) (ρ.set i d) (σ.set i ov) T fr := by
  by_cases hi : i < σ.length
  · exact h.putIn hi
  · rw [List.set_eq_of_length_le (by rw [h.l1]; omega), List.set_eq_of_length_le (by rw [h.l2]; omega), List.set_eq_of_length_le (by omega)]
    exact h.drop
theorem SA.setMany : ∀ {is : List Nat} {ds : Dat} {vs : List V} {Δ : List M} {ρ : Dat} {σ : List (Option V)}, SA c H0 B H Δ ρ σ (ents m ds vs ++ T) fr → ds.length = is.length → vs.length = is.length → SA c H0 B H (setM is m Δ) (setAll is ds ρ) (setV is vs σ) T fr
  | [], [], [], _, _, _, h, _, _ => h
  | [], _ :: _, _, _, _, _, _, h, _ => by simp at h
  | [], _, _ :: _, _, _, _, _, _, h => by simp at h
  | _ :: _, [], _, _, _, _, _, h, _ => by simp at h
  | _ :: _, _, [], _, _, _, _, _, h => by simp at h
  | i :: is, d :: ds, v :: vs, Δ, ρ, σ, h, l1, l2 => by
    have h' : SA c H0 B H Δ ρ σ (⟨m, d, some v⟩ :: (ents m ds vs ++ T)) fr := h
    exact SA.setMany (is := is) (ds := ds) (vs := vs) (h'.putAny (i := i)) (by simpa using l1) (by simpa using l2)
theorem gTg_run {K : PySem.W.Frag} (hK : c.K = K) {tg : Tg} {x : V} {Kd : Dat → Prop} {Q : L2.St → Hp → Prop} (h : SA c H0 B H Δ ρ σ (⟨m, d, some x⟩ :: T) fr) (hm : m ≠ .dead) (w : tgD tg d ρ Kd)
    (k : ∀ ρ', Kd ρ' → ∀ σ', (∀ vs : List Nat, (∀ i ∈ tgL tg, i ∈ vs) → wipe σ' vs = wipe σ vs) → SA c H0 B H (tgM tg m Δ) ρ' σ' T fr → Q σ' H) : gTg K tg x σ H Q := by
  cases tg with
  | one i => exact k _ w _ (fun vs hv => wipe_set (hv i List.mem_cons_self)) h.putAny
  | many is =>
    cases d with
    | tup ds =>
      obtain ⟨hl, w⟩ := w
      obtain ⟨p, vs, rfl, s, l, q⟩ := h.isRefT hm
      subst hK
      refine ⟨p, vs, rfl, s, by omega, gNms_run (by omega) (k _ w _ (fun vs hv => wipe_setV hv) ?_)⟩
      exact SA.setMany q hl (by omega)
    | _ => exact w.elim
theorem pgs_of {X : Cx} {mc : MC} {W : WX} (C : Ctx X c Ω tc mc W) : ∀ {is : List Nat} {es : List Expr}, matchTs mc is es = true → PGs X es (gNms is) ∧ (assignEach es X.env).length = is.length ∧ (assignEach es X.env).findIdx? (·.1) = none
  | [], [], _ => ⟨pgs_nil, rfl, rfl⟩
  | [], _ :: _, h => by cases h
  | i :: is, [], h => by cases h
  | i :: is, e :: es, h => by
    cases e with
    | Name x p =>
      obtain ⟨h1, h2⟩ := and_of (show (stoOk mc i x && matchTs mc is es) = true from h)
      obtain ⟨p1, p2, p3⟩ := pgs_of C h2
      unfold stoOk at h1
      obtain ⟨h3, h4⟩ := and_of h1
      obtain ⟨s1, s2⟩ := C.sto x h4
      refine ⟨pgs_cons (pg_name C.nd (by rw [C.n]; exact of_decide_eq_true h3) s1 s2) p1, ?_, ?_⟩
      · show (assignEach es X.env).length + 1 = is.length + 1
        rw [p2]
      · show List.findIdx? _ ((false, _) :: assignEach es X.env) = none
        rw [List.findIdx?_cons, p3]; rfl
    | _ => cases h
theorem pg_tg {X : Cx} {mc : MC} {W : WX} (C : Ctx X c Ω tc mc W) {tg : Tg} {e : Expr} (h : matchTg mc tg e = true) : PG X e (gTg X.K tg) := by
  unfold matchTg at h
  split at h
  · unfold stoOk at h
    obtain ⟨h3, h4⟩ := and_of h
    obtain ⟨s1, s2⟩ := C.sto _ h4
    exact pg_name C.nd (by rw [C.n]; exact of_decide_eq_true h3) s1 s2
  · obtain ⟨p1, p2, p3⟩ := pgs_of C h
    exact pg_tup C.calm p1 p2 p3
  · cases h

/-! ## a block's context -/
theorem Ctx.blk {X : Cx} {mc : MC} {W : WX} (C : Ctx X c Ω tc mc W) (s : Shared) (H : Hp) (scope : Scope) (A : Addr) (cl : List (Str × Addr)) (fp : List Addr) :
    Ctx (X.blk s H scope (compEnvC scope cl A X.env) fp) c Ω ⟨tc.sg, none⟩ (mc.blk scope) (fun _ _ _ _ => False) where
  n := C.n
  s := by
    show L2.relS scope X.env.scope = L2.relS scope mc.sc
    rw [C.s]
  nd := C.nd
  calm := C.calm
  sto := fun x h => by
    have h' : (decide (scope.names.lookup x = some .local) || decide (scope.names.lookup x = some .cell)) = true := h
    rcases Bool.or_eq_true_iff.mp h' with q | q
    · have q := of_decide_eq_true q
      have z := lookup_relS_keep (sc := X.env.scope) (k := .local) (fun z => nomatch z) q
      exact ⟨.inl z, .inr z⟩
    · have q := of_decide_eq_true q
      have z := lookup_relS_keep (sc := X.env.scope) (k := .cell) (fun z => nomatch z) q
      refine ⟨.inr z, .inl ?_⟩
      show (scope.names.lookup x == some .cell) = true
      rw [q]; rfl
  tk := fun u s' ⟨_, _, _, _, _, _, _, _, _, _, _, _, _, _, _, _, w⟩ => w.elim
  pw := PassesOwn.never
  k := C.k
  rm := C.rm
  fn := C.fn
  rz := C.rz
  kt := C.kt
  df := fun z => nomatch z
  tr := C.tr
  gl := C.gl
  bt := C.bt

/-! ## entries without an owner -/
theorem EnRs.unL : ∀ {es : List En} {L : List Addr}, (∀ e ∈ es, e.m = .frz ∨ e.m = .dead) → EnRs c B H es L → L = []
  | [], _, _, h => h
  | e :: es, L, hm, h => by
    obtain ⟨L1, L2, rfl, h1, h2⟩ := h
    have e2 := EnRs.unL (fun x hx => hm x (List.mem_cons_of_mem _ hx)) h2
    have e1 : L1 = [] := by
      rcases hm e List.mem_cons_self with z | z
      · exact EnR.un (by rw [z]; rfl) h1
      · rcases h1 with ⟨h1, _⟩ | ⟨h1, _⟩
        · exact h1
        · exact absurd z h1
    rw [e1, e2]; rfl
theorem HA.addUn (h : HA c H0 B H es fr) (r : EnRs c B H es' []) : HA c H0 B H (es' ++ es) fr := by
  obtain ⟨L1, L2, h1, h2, nd, f0, fb⟩ := h.ex
  exact ⟨⟨L1, L2, EnRs.append.mpr ⟨[], L1, rfl, r, h1⟩, h2, nd, f0, fb⟩, h.bh, h.h0, h.nb⟩
theorem HA.dropR (h : HA c H0 B H (es ++ es') fr) : HA c H0 B H es fr := by
  have q := h.perm List.perm_append_comm
  clear h
  induction es' with
  | nil => exact q
  | cons x es' ih => exact ih q.drop
theorem EnRs.lent (b : Ex B H) : ∀ {Δ : List M} {ρ : Dat} {σ : List (Option V)} {L : List Addr}, EnRs c B H (slots Δ ρ σ) L → EnRs c H H (slots (Δ.map lentM) ρ σ) []
  | [], _, _, _, _ => rfl
  | _ :: _, [], _, _, _ => rfl
  | _ :: _, _ :: _, [], _, _ => rfl
  | m :: Δ, d :: ρ, v :: σ, L, h => by
    obtain ⟨L1, L2, rfl, h1, h2⟩ := (show EnRs c B H (⟨m, d, v⟩ :: slots Δ ρ σ) L from h)
    refine ⟨[], [], rfl, ?_, EnRs.lent b h2⟩
    rcases h1 with ⟨_, z⟩ | ⟨z, w, e, r⟩
    · refine .inl ⟨rfl, ?_⟩
      rcases z with z | z
      · have z : m = .dead := z
        subst z
        exact .inl rfl
      · exact .inr z
    · have e1 : lentM m = .frz := by
        have z : m ≠ .dead := z
        cases m <;> first | rfl | exact absurd rfl z
      refine .inr ⟨?_, w, e, ?_⟩
      · show lentM m ≠ .dead
        rw [e1]; exact fun z => nomatch z
      · show Rep c H H d (lentM m) w []
        rw [e1]
        exact Rep.toH b r
theorem EnRs.setDead : ∀ {Δ : List M} {ρ : Dat} {σ : List (Option V)} {i : Nat} {d' : D} {ov : Option V}, EnRs c B H (slots Δ ρ σ) [] → EnRs c B H (slots (Δ.set i .dead) (ρ.set i d') (σ.set i ov)) []
  | [], _, _, _, _, _, _ => rfl
  | _ :: _, [], _, i, _, _, _ => by cases i <;> exact rfl
  | _ :: _, _ :: _, [], i, _, _, _ => by cases i <;> exact rfl
  | m :: Δ, d :: ρ, v :: σ, 0, d', ov, h => by
    obtain ⟨L1, L2, e, h1, h2⟩ := (show EnRs c B H (⟨m, d, v⟩ :: slots Δ ρ σ) [] from h)
    obtain ⟨rfl, rfl⟩ := List.append_eq_nil_iff.mp e.symm
    exact ⟨[], [], rfl, .inl ⟨rfl, .inl rfl⟩, h2⟩
  | m :: Δ, d :: ρ, v :: σ, i + 1, d', ov, h => by
    obtain ⟨L1, L2, e, h1, h2⟩ := (show EnRs c B H (⟨m, d, v⟩ :: slots Δ ρ σ) [] from h)
    obtain ⟨rfl, rfl⟩ := List.append_eq_nil_iff.mp e.symm
    exact ⟨[], [], rfl, h1, EnRs.setDead h2⟩
theorem EnRs.wiped : ∀ {own : List (Str × Nat)} {Δ : List M} {ρ : Dat} {σ : List (Option V)}, EnRs c B H (slots Δ ρ σ) [] → EnRs c B H (slots (wipeM own Δ) (wipeD own ρ) (wipe σ (own.map (·.2)))) []
  | [], _, _, _, h => h
  | p :: own, Δ, ρ, σ, h => EnRs.setDead (EnRs.wiped (own := own) h)
theorem wipeM_len : ∀ {own : List (Str × Nat)} {Δ : List M}, (wipeM own Δ).length = Δ.length
  | [], _ => rfl
  | p :: own, Δ => by
    show ((wipeM own Δ).set p.2 .dead).length = _
    rw [List.length_set, wipeM_len]
theorem wipeD_len : ∀ {own : List (Str × Nat)} {ρ : Dat}, (wipeD own ρ).length = ρ.length
  | [], _ => rfl
  | p :: own, ρ => by
    show ((wipeD own ρ).set p.2 .hole).length = _
    rw [List.length_set, wipeD_len]
def FD (Δ : List M) : Prop := ∀ m ∈ Δ, m = .frz ∨ m = .dead
theorem FD.lent : FD (Δ.map lentM) := fun m hm => by
  obtain ⟨x, _, rfl⟩ := List.mem_map.mp hm
  cases x <;> first | exact .inl rfl | exact .inr rfl
theorem FD.set (h : FD Δ) (hm : m = .frz ∨ m = .dead) : FD (Δ.set i m) := fun x hx => by
  rcases List.mem_or_eq_of_mem_set hx with z | z
  · exact h x z
  · rw [z]; exact hm
theorem FD.wipe : ∀ {own : List (Str × Nat)} {Δ : List M}, FD Δ → FD (wipeM own Δ)
  | [], _, h => h
  | p :: own, Δ, h => (FD.wipe (own := own) h).set (.inr rfl)
theorem FD.setM : ∀ {is : List Nat} {Δ : List M}, FD Δ → FD (setM is .frz Δ)
  | [], _, h => h
  | i :: is, Δ, h => FD.setM (is := is) (h.set (.inl rfl))
theorem FD.tg {tg : Tg} (h : FD Δ) : FD (tgM tg .frz Δ) := by
  cases tg with
  | one i => exact h.set (.inl rfl)
  | many is => exact h.setM
theorem FD.slots : ∀ {Δ : List M} {ρ : Dat} {σ : List (Option V)}, FD Δ → ∀ e ∈ slots Δ ρ σ, e.m = .frz ∨ e.m = .dead
  | [], _, _, _, _, he => by simp [FM.slots] at he
  | _ :: _, [], _, _, _, he => by simp [FM.slots] at he
  | _ :: _, _ :: _, [], _, _, he => by simp [FM.slots] at he
  | m :: Δ, d :: ρ, v :: σ, h, e, he => by
    rcases List.mem_cons.mp (show e ∈ (⟨m, d, v⟩ : En) :: FM.slots Δ ρ σ from he) with z | z
    · rw [z]; exact h m List.mem_cons_self
    · exact FD.slots (fun x hx => h x (List.mem_cons_of_mem _ hx)) e z
theorem SA.slotsUn (h : SA c H0 B H Δ ρ σ T fr) (hf : FD Δ) : EnRs c B H (slots Δ ρ σ) [] := by
  obtain ⟨_, L2, h1, h2, nd, f0, fb⟩ := h.ha.ex
  obtain ⟨L3, L4, rfl, h3, h4⟩ := EnRs.append.mp h1
  have e := EnRs.unL (FD.slots hf) h4
  subst e
  exact h4
theorem SA.ofUn (h : HA c H0 B H T fr) (r : EnRs c B H (slots Δ ρ σ) []) (l1 : Δ.length = σ.length) (l2 : ρ.length = σ.length) : SA c H0 B H Δ ρ σ T fr := ⟨(h.addUn r).perm List.perm_append_comm, l1, l2⟩
theorem EnRs.up (h : EnRs c B H es []) (b : Ex B B') (g : Ex H H') : EnRs c B' H' es [] := EnRs.mono b (fun _ z => nomatch z) (.inl g) h
theorem HA.app (h : HA c H0 B H (⟨m.inner, d, some v⟩ :: ⟨m, .lst ds, some (.ref p)⟩ :: es) fr) (hm : m = .deep ∨ m = .shal) (nb : ∀ e ∈ es, e.m ≠ .bor) :
    ∃ vs, H p = some (.lst vs) ∧ vs.length = ds.length ∧ HA c H0 B (upd H p (.lst (vs ++ [v]))) (⟨m, .lst (ds ++ [d]), some (.ref p)⟩ :: es) fr := by
  have h1 := h.perm (List.Perm.swap ..)
  obtain ⟨p', vs, e, hp, hl, q⟩ := h1.openC hm
  cases e
  refine ⟨vs, hp, hl, ?_⟩
  have q2 : HA c H0 B H (⟨m, .lst (holes vs.length), some (.ref p)⟩ :: (ents m.inner ds vs ++ ⟨m.inner, d, some v⟩ :: es)) fr := q.perm List.perm_middle
  have nb2 : ∀ e ∈ ents m.inner ds vs ++ (⟨m.inner, d, some v⟩ : En) :: es, e.m ≠ .bor := by
    have ni : m.inner ≠ .bor := by rcases hm with rfl | rfl <;> exact fun z => nomatch z
    have en : ∀ {ds : Dat} {vs : List V} (e : En), e ∈ ents m.inner ds vs → e.m = m.inner := by
      intro ds
      induction ds with
      | nil => intro vs e he; cases vs <;> simp [ents] at he
      | cons d ds ih =>
        intro vs e he
        cases vs with
        | nil => simp [ents] at he
        | cons v vs =>
          rcases List.mem_cons.mp (show e ∈ (⟨m.inner, d, some v⟩ : En) :: ents m.inner ds vs from he) with z | z
          · rw [z]
          · exact ih e z
    intro e he
    rcases List.mem_append.mp he with z | z
    · rw [en e z]; exact ni
    · rcases List.mem_cons.mp z with z | z
      · rw [z]; exact ni
      · exact nb e z
  have q3 := q2.writeC hm nb2 (vs ++ [v])
  have q4 : HA c H0 B (upd H p (.lst (vs ++ [v]))) (ents m.inner (ds ++ [d]) (vs ++ [v]) ++ ⟨m, .lst (holes (vs ++ [v]).length), some (.ref p)⟩ :: es) fr := by
    rw [ents_app hl, List.append_assoc]
    refine q3.perm ?_
    refine (List.perm_middle (a := (⟨m, .lst (holes (vs ++ [v]).length), some (.ref p)⟩ : En))).symm.trans ?_
    refine List.Perm.append_left _ ?_
    exact List.Perm.swap ..
  exact q4.closeC hm (by simp [hl]) upd_same
end
end FM

set_option Elab.async false
set_option linter.all false
set_option maxRecDepth 100000
namespace FM
open PySem L2
section
variable {c : Cfg} {Ω : Str → FSem} {tc : SigT} {H0 B B' Bs H H' : Hp} {Δ Δ' : List M} {ρ ρ' : Dat} {σ σ' : List (Option V)} {T T' fr es es' : List En} {e : En} {m m' : M} {d : D} {ds ds' : Dat} {v : V} {vs us : List V} {ov : Option V} {i : Nat} {p q : Addr}
theorem wipe_len : ∀ {vs : List Nat} {σ : L2.St}, (wipe σ vs).length = σ.length := fun {vs σ} => wipe_length σ vs
theorem tgIn_of {own : List (Str × Nat)} {tg : Tg} (h : tgIn own tg = true) : ∀ i ∈ tgL tg, i ∈ own.map (·.2) := by
  cases tg with
  | one j =>
    intro i hi
    have e : i = j := by simpa [tgL] using hi
    subst e
    have h' : (own.map (·.2)).contains i = true := h
    simpa using h'
  | many is =>
    intro i hi
    have h' : (is.all fun i => (own.map (·.2)).contains i) = true := h
    have := List.all_eq_true.mp h' i hi
    simpa using this
theorem drop_at {ds : Dat} {i : Nat} {d : D} (h : ds[i]? = some d) : ds.drop i = d :: ds.drop (i + 1) := by
  obtain ⟨hi, e⟩ := List.getElem?_eq_some_iff.mp h
  rw [List.drop_eq_getElem_cons hi, e]
theorem HA.nil (c : Cfg) (H : Hp) : HA c H H H [] [] := ⟨⟨[], [], rfl, rfl, List.nodup_nil, (fun _ z => nomatch z), (fun _ z => nomatch z)⟩, Ex.rfl', Ex.rfl', (fun _ z => nomatch z)⟩
def LcTy (tc : SigT) (Δ Δ' : List M) (own : List (Str × Nat)) (elt : IE) (tg : Tg) (it cond : IE) (m : M) : Prop := ∃ mi mc Δc Δe, tyE tc it Δ = some ([mi], Δ') ∧
    ((mi ≠ .dead ∧ m = .deep ∧ tyE ⟨tc.sg, none⟩ cond (tgM tg .frz (wipeM own (Δ'.map lentM))) = some ([mc], Δc) ∧ tyE ⟨tc.sg, none⟩ elt (tgM tg .frz (wipeM own (Δ'.map lentM))) = some ([.deep], Δe)) ∨
     (mi = .frz ∧ m = .shal ∧ tyE ⟨tc.sg, none⟩ cond (tgM tg .frz (wipeM own (Δ'.map frzM))) = some ([mc], Δc) ∧ tyE ⟨tc.sg, none⟩ elt (tgM tg .frz (wipeM own (Δ'.map frzM))) = some ([.frz], Δe)))
theorem or_cases {α : Type} {a b : Option α} {x : α} (h : a.or b = some x) : a = some x ∨ b = some x := by
  cases a with
  | none => exact .inr h
  | some y => exact .inl h
theorem lc_ty {own : List (Str × Nat)} {elt : IE} {tg : Tg} {it cond : IE} {m : M} (h : tyE tc (.lc own elt tg it cond) Δ = some ([m], Δ')) : LcTy tc Δ Δ' own elt tg it cond m := by
  simp only [tyE] at h
  obtain ⟨mi, Δ1, t1, h⟩ := bind1 h
  obtain ⟨y, hy, h⟩ := bindO h
  cases one_of hy
  rcases or_cases h with h | h
  all_goals
    obtain ⟨mc, Δc, t2, h⟩ := bind1 h
    obtain ⟨me, Δe, t3, h⟩ := bind1 h
    obtain ⟨y2, hy2, h⟩ := bindO h
    obtain ⟨y3, hy3, h9⟩ := bindO h
    cases one_of hy2
    cases one_of hy3
    split at h9
    · rename_i hx
      obtain ⟨h1, h2⟩ := hx
      subst h2
      cases h9
      first
        | exact ⟨_, _, _, _, t1, .inl ⟨h1, rfl, t2, t3⟩⟩
        | exact ⟨_, _, _, _, t1, .inr ⟨h1, rfl, t2, t3⟩⟩
    · cases h9
theorem EnRs.frzd : ∀ {Δ : List M} {ρ : Dat} {σ : List (Option V)} {L : List Addr}, EnRs c B H (slots Δ ρ σ) L → EnRs c B H (slots (Δ.map frzM) ρ σ) []
  | [], _, _, _, _ => rfl
  | _ :: _, [], _, _, _ => rfl
  | _ :: _, _ :: _, [], _, _ => rfl
  | m :: Δ, d :: ρ, v :: σ, L, h => by
    obtain ⟨L1, L2, rfl, h1, h2⟩ := (show EnRs c B H (⟨m, d, v⟩ :: slots Δ ρ σ) L from h)
    refine ⟨[], [], rfl, ?_, EnRs.frzd h2⟩
    cases m with
    | frz =>
      have e := EnR.un rfl h1
      subst e
      exact h1
    | _ => exact .inl ⟨rfl, .inl rfl⟩
theorem FD.frzd : FD (Δ.map frzM) := fun m hm => by
  obtain ⟨x, _, rfl⟩ := List.mem_map.mp hm
  cases x <;> first | exact .inl rfl | exact .inr rfl
theorem lc_keyF {K : PySem.W.Frag} (hK : c.K = K) {own : List (Str × Nat)} {elt it cond : IE} {tg : Tg} {W : WX} {tt : TT} (hin : tgIn own tg = true) {mc : M} {Δc Δe : List M}
    (htt : ∀ σ H Q, tTe c Ω ⟨tc.sg, none⟩ (fun _ _ _ _ => False) cond σ H Q → tt σ H Q) {σ : L2.St} {H : Hp} {Q : VK} {Qd : D → Dat → Prop} {Xd : XPost}
    (sa : SA c H0 B H Δ ρ σ T fr) (t1 : tyE tc it Δ = some ([.frz], Δ')) (t2 : tyE ⟨tc.sg, none⟩ cond (tgM tg .frz (wipeM own (Δ'.map frzM))) = some ([mc], Δc)) (t3 : tyE ⟨tc.sg, none⟩ elt (tgM tg .frz (wipeM own (Δ'.map frzM))) = some ([.frz], Δe))
    (wp : wpE Ω (.lc own elt tg it cond) ρ Qd Xd) (xc : XC c tc W Xd H0 B H σ T fr)
    (k : ∀ d ρ', Qd d ρ' → ∀ v B' H', Ex B B' → Ex H H' → SA c H0 B' H' Δ' ρ' σ (⟨.shal, d, some v⟩ :: T) fr → M.shal ≠ .dead → Q v H') :
    tLc (tI c Ω tc W it) (gTg K tg) tt (tE c Ω ⟨tc.sg, none⟩ (fun _ _ _ _ => False) elt) (own.map (·.2)) σ H Q := by
  refine ⟨H0, B, Δ, ρ, T, fr, .frz, Δ', _, Xd, sa, t1, wp, xc, fun ds ρ1 w1 Ts B1 H1 J b1 g1 sa1 _ _ it1 => ?_⟩
  have it1 := it1 rfl
  have base : HA c H0 B1 H1 (T ++ slots Δ' ρ1 σ) fr := (sa1.drops (T' := Ts)).ha
  have fram := base.toFrame
  generalize hF : (T ++ slots Δ' ρ1 σ).map En.kill ++ fr = F at fram
  obtain ⟨hlim, w1⟩ := w1
  intro D nD
  -- what the block sees
  obtain ⟨Ls, hs⟩ : ∃ L, EnRs c B1 H1 (slots Δ' ρ1 σ) L := by
    obtain ⟨_, L2, h1, h2, _⟩ := sa1.ha.ex
    obtain ⟨_, L4, _, _, h4⟩ := EnRs.append.mp h1
    exact ⟨L4, h4⟩
  have lw := EnRs.wiped (own := own) hs.frzd
  have fdw : FD (tgM tg .frz (wipeM own (Δ'.map frzM))) := FD.tg (FD.wipe FD.frzd)
  have fdw0 : FD (wipeM own (Δ'.map frzM)) := FD.wipe FD.frzd
  have l1 : (wipeM own (Δ'.map frzM)).length = (wipe σ (own.map (·.2))).length := by rw [wipeM_len, wipe_len, List.length_map]; exact sa1.l1
  have l2 : (wipeD own ρ1).length = (wipe σ (own.map (·.2))).length := by rw [wipeD_len, wipe_len]; exact sa1.l2
  have i0 : HA c H1 B1 (upd H1 D (.lst [])) [⟨.shal, .lst [], some (.ref D)⟩] F := HA.newL (m := .shal) (ds := []) (vs := []) fram (.inr rfl) rfl nD
  let PV : Nat → Nat → Hp → Prop := fun i n H => n = ds.length - i ∧ i ≤ ds.length ∧ ∃ B2 ys, Ex B1 B2 ∧ HA c H1 B2 H [⟨.shal, .lst ys, some (.ref D)⟩] F ∧ ys.length ≤ i ∧
    goLC tg (fun ρ K => wpE Ω cond ρ (fun y _ => asB y K) noX) (fun ρ K => wpE Ω elt ρ (fun y _ => K y) noX) (wipeD own ρ1) (ds.drop i) fun zs => Qd (.lst (ys ++ zs)) ρ1
  refine ⟨PV, ⟨ds.length, by simp, Nat.zero_le _, B1, [], Ex.rfl', i0, Nat.le_refl _, w1⟩, ?_⟩
  rintro i n H ⟨rfl, hi, B2, ys, b2, ha, hy, go⟩
  have okI := it1 B2 H b2 ha.bh i
  by_cases hlt : i < ds.length
  · have hd : ds[i]? = some ds[i] := List.getElem?_eq_getElem hlt
    obtain ⟨hgo, hyl⟩ := okI.1 _ hd
    rw [drop_at hd] at go
    refine .inr ⟨hgo, fun H' => PV (i + 1) (ds.length - (i + 1)) H', fun H' p' => ⟨_, by omega, p'⟩, fun x H3 hy3 => ?_⟩
    obtain ⟨B3, b3, g3, ha3⟩ := hyl x H3 hy3 _ _ _ ha
    have ex3 : Ex B1 B3 := b2.tr b3
    have sa3 : SA c H1 B3 H3 (wipeM own (Δ'.map frzM)) (wipeD own ρ1) (wipe σ (own.map (·.2))) (⟨.frz, ds[i], some x⟩ :: [⟨.shal, .lst ys, some (.ref D)⟩]) F := SA.ofUn ha3 (lw.up ex3 ha3.h0) l1 l2
    refine gTg_run hK sa3 (fun z => nomatch z) go fun ρ' w2 σ' hw sa4 => ⟨hw _ (tgIn_of hin) |>.trans ?_, htt _ _ _ ?_⟩
    · -- the block's names are forgotten already
      have aux : ∀ {vs : List Nat} {σ : L2.St}, wipe (wipe σ vs) vs = wipe σ vs := by
        intro vs
        induction vs with
        | nil => intro σ; rfl
        | cons v vs ih =>
          intro σ
          show (wipe ((wipe σ vs).set v none) vs).set v none = (wipe σ vs).set v none
          rw [wipe_set2, ih]
      exact aux
    refine ⟨H1, B3, _, ρ', _, F, mc, Δc, _, noX, sa4, t2, w2, (fun _ _ z => z.elim), fun bb ρ5 w5 B5 H5 b5 g5 sa5 => ?_⟩
    have ha5 := sa5.ha.dropR
    have ls := (sa4.slotsUn fdw).up b5 g5
    cases bb with
    | false =>
      rw [if_neg Bool.false_ne_true] at w5
      refine ⟨rfl, hlt, B5, ys, ex3.tr b5, ha5, by omega, w5⟩
    | true =>
      rw [if_pos rfl] at w5
      have sa6 : SA c H1 B5 H5 (tgM tg .frz (wipeM own (Δ'.map frzM))) ρ' σ' [⟨.shal, .lst ys, some (.ref D)⟩] F := SA.ofUn ha5 ls sa4.l1 sa4.l2
      refine ⟨H1, B5, _, ρ', _, F, .frz, Δe, _, noX, sa6, t3, w5, (fun _ _ z => z.elim), fun d7 ρ7 w7 v7 B7 H7 b7 g7 sa7 n7 => ?_⟩
      have ha7 : HA c H1 B7 H7 (⟨M.shal.inner, d7, some v7⟩ :: ⟨.shal, .lst ys, some (.ref D)⟩ :: []) F := sa7.ha.dropR
      obtain ⟨acc, hacc, hal, ha8⟩ := ha7.app (.inr rfl) (fun _ z => nomatch z)
      refine ⟨acc, hacc, ?_, rfl, hlt, B7, ys ++ [d7], (ex3.tr b5).tr b7, ha8, by simp; omega, ?_⟩
      · have : ds.length < sizeLine + 1 := Nat.lt_succ_of_le (LIM_line hlim)
        omega
      · have e : (fun zs => Qd (.lst (ys ++ [d7] ++ zs)) ρ1) = fun zs => Qd (.lst (ys ++ (d7 :: zs))) ρ1 := by
          funext zs
          rw [List.append_assoc]; rfl
        rw [e]
        exact w7
  · have e : i = ds.length := by omega
    subst e
    refine .inl ⟨okI.2 (Nat.le_refl _), ?_⟩
    rw [List.drop_length] at go
    have go' : Qd (.lst (ys ++ [])) ρ1 := go
    rw [List.append_nil] at go'
    subst hF
    have hm := base.ofFrame ha b2
    exact k _ ρ1 go' _ _ H (b1.tr b2) (g1.tr ha.h0) ⟨hm, sa1.l1, sa1.l2⟩ (fun z => nomatch z)
/-- a comprehension -/
theorem lc_key {K : PySem.W.Frag} (hK : c.K = K) {own : List (Str × Nat)} {elt it cond : IE} {tg : Tg} {W : WX} {tt : TT} (hin : tgIn own tg = true)
    (htt : ∀ σ H Q, tTe c Ω ⟨tc.sg, none⟩ (fun _ _ _ _ => False) cond σ H Q → tt σ H Q) {σ : L2.St} {H : Hp} {Q : VK} (h : tE c Ω tc W (.lc own elt tg it cond) σ H Q) :
    tLc (tI c Ω tc W it) (gTg K tg) tt (tE c Ω ⟨tc.sg, none⟩ (fun _ _ _ _ => False) elt) (own.map (·.2)) σ H Q := by
  obtain ⟨H0, B, Δ, ρ, T, fr, m, Δ', Qd, Xd, sa, ty, wp, xc, k⟩ := h
  obtain ⟨mi, mc, Δc, Δe, t1, ⟨nd, rfl, t2, t3⟩ | ⟨rfl, rfl, t2, t3⟩⟩ := lc_ty ty
  case inr => exact lc_keyF hK hin htt sa t1 t2 t3 wp xc k
  refine ⟨H0, B, Δ, ρ, T, fr, mi, Δ', _, Xd, sa, t1, wp, xc, fun ds ρ1 w1 Ts B1 H1 J b1 g1 sa1 _ it1 _ => ?_⟩
  obtain ⟨hlim, w1⟩ := w1
  intro D nD
  -- what the block sees
  obtain ⟨Ls, hs⟩ : ∃ L, EnRs c B1 H1 (slots Δ' ρ1 σ) L := by
    obtain ⟨_, L2, h1, h2, _⟩ := sa1.ha.ex
    obtain ⟨_, L4, _, _, h4⟩ := EnRs.append.mp h1
    exact ⟨L4, h4⟩
  have lw := EnRs.wiped (own := own) (hs.lent sa1.ha.bh)
  have fdw : FD (tgM tg .frz (wipeM own (Δ'.map lentM))) := FD.tg (FD.wipe FD.lent)
  have fdw0 : FD (wipeM own (Δ'.map lentM)) := FD.wipe FD.lent
  have l1 : (wipeM own (Δ'.map lentM)).length = (wipe σ (own.map (·.2))).length := by rw [wipeM_len, wipe_len, List.length_map]; exact sa1.l1
  have l2 : (wipeD own ρ1).length = (wipe σ (own.map (·.2))).length := by rw [wipeD_len, wipe_len]; exact sa1.l2
  have i0 : HA c H1 H1 (upd H1 D (.lst [])) [⟨.deep, .lst [], some (.ref D)⟩] [] := HA.newL (m := .deep) (ds := []) (vs := []) (HA.nil c H1) (.inl rfl) rfl nD
  let PV : Nat → Nat → Hp → Prop := fun i n H => n = ds.length - i ∧ i ≤ ds.length ∧ ∃ B2 ys, Ex H1 B2 ∧ HA c H1 B2 H [⟨.deep, .lst ys, some (.ref D)⟩] [] ∧ ys.length ≤ i ∧
    goLC tg (fun ρ K => wpE Ω cond ρ (fun y _ => asB y K) noX) (fun ρ K => wpE Ω elt ρ (fun y _ => K y) noX) (wipeD own ρ1) (ds.drop i) fun zs => Qd (.lst (ys ++ zs)) ρ1
  refine ⟨PV, ⟨ds.length, by simp, Nat.zero_le _, H1, [], Ex.rfl', i0, Nat.le_refl _, w1⟩, ?_⟩
  rintro i n H ⟨rfl, hi, B2, ys, b2, ha, hy, go⟩
  have okI := it1 B2 H b2 ha.bh i
  by_cases hlt : i < ds.length
  · have hd : ds[i]? = some ds[i] := List.getElem?_eq_getElem hlt
    obtain ⟨hgo, hyl⟩ := okI.1 _ hd
    rw [drop_at hd] at go
    refine .inr ⟨hgo, fun H' => PV (i + 1) (ds.length - (i + 1)) H', fun H' p' => ⟨_, by omega, p'⟩, fun x H3 hy3 => ?_⟩
    obtain ⟨B3, b3, g3, ha3⟩ := hyl x H3 hy3 _ _ _ ha
    have ex3 : Ex H1 B3 := b2.tr b3
    have sa3 : SA c H1 B3 H3 (wipeM own (Δ'.map lentM)) (wipeD own ρ1) (wipe σ (own.map (·.2))) (⟨.frz, ds[i], some x⟩ :: [⟨.deep, .lst ys, some (.ref D)⟩]) [] := SA.ofUn ha3 (lw.up ex3 (ex3.tr ha3.bh)) l1 l2
    refine gTg_run hK sa3 (fun z => nomatch z) go fun ρ' w2 σ' hw sa4 => ⟨hw _ (tgIn_of hin) |>.trans ?_, htt _ _ _ ?_⟩
    · -- the block's names are forgotten already
      have aux : ∀ {vs : List Nat} {σ : L2.St}, wipe (wipe σ vs) vs = wipe σ vs := by
        intro vs
        induction vs with
        | nil => intro σ; rfl
        | cons v vs ih =>
          intro σ
          show (wipe ((wipe σ vs).set v none) vs).set v none = (wipe σ vs).set v none
          rw [wipe_set2, ih]
      exact aux
    refine ⟨H1, B3, _, ρ', _, [], mc, Δc, _, noX, sa4, t2, w2, (fun _ _ z => z.elim), fun bb ρ5 w5 B5 H5 b5 g5 sa5 => ?_⟩
    have ha5 := sa5.ha.dropR
    have ls := (sa4.slotsUn fdw).up b5 g5
    cases bb with
    | false =>
      rw [if_neg Bool.false_ne_true] at w5
      refine ⟨rfl, hlt, B5, ys, ex3.tr b5, ha5, by omega, w5⟩
    | true =>
      rw [if_pos rfl] at w5
      have sa6 : SA c H1 B5 H5 (tgM tg .frz (wipeM own (Δ'.map lentM))) ρ' σ' [⟨.deep, .lst ys, some (.ref D)⟩] [] := SA.ofUn ha5 ls sa4.l1 sa4.l2
      refine ⟨H1, B5, _, ρ', _, [], .deep, Δe, _, noX, sa6, t3, w5, (fun _ _ z => z.elim), fun d7 ρ7 w7 v7 B7 H7 b7 g7 sa7 n7 => ?_⟩
      have ha7 : HA c H1 B7 H7 (⟨M.deep.inner, d7, some v7⟩ :: ⟨.deep, .lst ys, some (.ref D)⟩ :: []) [] := sa7.ha.dropR
      obtain ⟨acc, hacc, hal, ha8⟩ := ha7.app (.inl rfl) (fun _ z => nomatch z)
      refine ⟨acc, hacc, ?_, rfl, hlt, B7, ys ++ [d7], (ex3.tr b5).tr b7, ha8, by simp; omega, ?_⟩
      · have : ds.length < sizeLine + 1 := Nat.lt_succ_of_le (LIM_line hlim)
        omega
      · have e : (fun zs => Qd (.lst (ys ++ [d7] ++ zs)) ρ1) = fun zs => Qd (.lst (ys ++ (d7 :: zs))) ρ1 := by
          funext zs
          rw [List.append_assoc]; rfl
        rw [e]
        exact w7
  · have e : i = ds.length := by omega
    subst e
    refine .inl ⟨okI.2 (Nat.le_refl _), ?_⟩
    rw [List.drop_length] at go
    have go' : Qd (.lst (ys ++ [])) ρ1 := go
    rw [List.append_nil] at go'
    have base : HA c H0 B1 H1 (T ++ slots Δ' ρ1 σ) fr := (sa1.drops (T' := Ts)).ha
    obtain ⟨bm, hm⟩ := base.lend ha (b2.tr ha.bh) b2
    exact k _ ρ1 go' _ _ H (b1.tr bm) (g1.tr (b2.tr ha.bh)) ⟨hm, sa1.l1, sa1.l2⟩ (fun z => nomatch z)
/-- the parts of a comprehension's text -/
structure LcOk (X : Cx) (mc : MC) (c : Cfg) (Ω : Str → FSem) (tc : SigT) (W : WX) (own : List (Str × Nat)) (elt : IE) (tg : Tg) (it cond : IE) (x t i : Expr) (ifs : List Expr) (scope : Scope) : Prop where
  blk : BlkOk X.N X.env.scope scope own
  hin : tgIn own tg = true
  fold : ∀ y, foldedSetIterable i X.env y = pure y
  pi : PI X t i (tI c Ω tc W it)
  pg : ∀ (s : Shared) (H : Hp) (A : Addr) (cl : List (Str × Addr)) (fp : List Addr), PG (X.blk s H scope (compEnvC scope cl A X.env) fp) t (gTg X.K tg)
  pt : ∃ tt : TT, (∀ σ H Q, tTe c Ω ⟨tc.sg, none⟩ (fun _ _ _ _ => False) cond σ H Q → tt σ H Q) ∧ ∀ (s : Shared) (H : Hp) (A : Addr) (cl : List (Str × Addr)) (fp : List Addr), PTs (X.blk s H scope (compEnvC scope cl A X.env) fp) ifs tt
  pe : ∀ (s : Shared) (H : Hp) (A : Addr) (cl : List (Str × Addr)) (fp : List Addr), PE (X.blk s H scope (compEnvC scope cl A X.env) fp) x (tE c Ω ⟨tc.sg, none⟩ (fun _ _ _ _ => False) elt)
theorem lc_parts {X : Cx} {mc : MC} {W : WX} (C : Ctx X c Ω tc mc W) {own : List (Str × Nat)} {elt it cond : IE} {tg : Tg} (hit : SI c Ω tc it) (hc : tst cond = true → STe c Ω ⟨tc.sg, none⟩ cond) (he : SE c Ω ⟨tc.sg, none⟩ elt) {e : Expr} (h : matchE mc (.lc own elt tg it cond) e = true) :
    ∃ x t i ifs scope pos, e = .ListComp x [⟨t, i, ifs, 0⟩] scope pos ∧ LcOk X mc c Ω tc W own elt tg it cond x t i ifs scope := by
  unfold matchE matchX at h
  split at h
  · rename_i x t i ifs scope pos
    obtain ⟨h, h7⟩ := and_of h
    obtain ⟨h, h8⟩ := and_of h
    have hc := hc h8
    obtain ⟨h, h6⟩ := and_of h
    obtain ⟨h, h5⟩ := and_of h
    obtain ⟨h, h4⟩ := and_of h
    obtain ⟨h, h3⟩ := and_of h
    obtain ⟨h1, h2⟩ := and_of h
    refine ⟨x, t, i, ifs, scope, pos, rfl, blkOk_by (by rw [C.n, C.s]; exact h1), h2, folded_of h3, hit X mc W C t i h4, fun s H A cl fp => pg_tg (C.blk s H scope A cl fp) h5, ?_, fun s H A cl fp => he _ _ _ (C.blk s H scope A cl fp) x h6⟩
    split at h7
    · split at h7
      · refine ⟨tYes, fun σ H Q q => ?_, fun s H A cl fp => pts_nil⟩
        obtain ⟨H0, B, Δ, ρ, T, fr, m, Δ', Qd, Xd, sa, ty, wp, xc, k⟩ := q
        simp only [tyE, Option.some.injEq, Prod.mk.injEq, List.cons.injEq, and_true] at ty
        obtain ⟨rfl, rfl⟩ := ty
        exact k true ρ wp B H Ex.rfl' Ex.rfl' sa
      · cases h7
    · exact ⟨_, fun σ H Q q => q, fun s H A cl fp => pts_one (hc _ _ _ (C.blk s H scope A cl fp) _ h7)⟩
    · cases h7
  · cases h
theorem se_lc {own : List (Str × Nat)} {elt it cond : IE} {tg : Tg} (hit : SI c Ω tc it) (hc : tst cond = true → STe c Ω ⟨tc.sg, none⟩ cond) (he : SE c Ω ⟨tc.sg, none⟩ elt) : SE c Ω tc (.lc own elt tg it cond) := by
  intro X mc W C e h
  obtain ⟨x, t, i, ifs, scope, pos, rfl, L⟩ := lc_parts C hit hc he h
  obtain ⟨tt, htt, hpt⟩ := L.pt
  exact PE.imp (pe_lc C.calm C.nd L.pi L.blk L.pg hpt L.pe L.fold) fun σ H Q q => lc_key C.k L.hin htt q
end
end FM

set_option Elab.async false
set_option linter.all false
set_option maxRecDepth 100000
/-! isinstance of an own error that has no dict: the library's own answer (PySem.W.handS_kitx_exc) -/
namespace FM
open PySem L2
def rIsx (K : PySem.W.Frag) : List V → Hp → VK → Prop := fun xs H Q => ∃ (p a : Addr) (c : V) (u : Value) (b : Bool), xs = [.ref p, c] ∧ ClsV c u ∧ H p = some (excO a p none) ∧ ExcC K a ∧ PySem.W.kitOne K (.ref a) u = some b ∧ Q (.bl b) H
theorem call_isx {X : Cx} : CallR X (.builtin "isinstance") (rIsx X.K) := by
  rintro pins s σ H _ us Q I r ⟨p, a, c, u, b, rfl, k, hp, F, e, q⟩
  cases r with
  | cons r1 r =>
    cases r with
    | cons r2 r =>
      cases r
      cases r1
      cases k.eq r2
      have ok : ObjOk X.prog X.w H s.heap p (excO a p none) := I.hok p _ hp
      obtain ⟨oe, ho, ⟨z1, z2⟩, vs, hv⟩ := ok.1
      have J : PySem.W.InstAt s.heap p oe a none := ⟨ho, z1, by unfold PySem.W.notCls; rw [hv] <;> rfl, by rw [z2]; trivial⟩
      exact PySem.W.kia_one (PySem.W.handS_kitx_exc F.hg F.hk F.hs F.hd F.ha F.hn F.ht F.hm) I.kIn J e (fun z => nomatch z) fun t => ⟨.bl b, H, I.tok t, rfl, q⟩
end FM

set_option Elab.async false
set_option linter.all false
set_option maxRecDepth 100000
namespace FM
open PySem L2
def tagS : D → Option String
  | .non => some "NoneType"
  | .bl _ => some "bool"
  | .int _ => some "int"
  | .str _ => some "str"
  | .lst _ => some "list"
  | .tup _ => some "tuple"
  | _ => none
def tyS1 : Ty → Option String
  | .int => some "int"
  | .bool => some "bool"
  | .list => some "list"
  | .tuple => some "tuple"
  | .str => some "str"
  | .own _ => none
theorem kb_true {a b : String} (h : kitB a b = some true) {r : Bool} (hr : some true = some r) : kitB a b = some r := by rw [← hr]; exact h
theorem kb_false {a b : String} (h : kitB a b = some false) {r : Bool} (hr : some false = some r) : kitB a b = some r := by rw [← hr]; exact h
theorem kit_bb {T : Ty} {d : D} {a b : String} {r : Bool} (h : isiD T d = some r) (ha : tagS d = some a) (hb : tyS1 T = some b) : kitB a b = some r := by
  cases d <;> first | cases ha | skip
  all_goals (cases T <;> first | cases hb | skip)
  all_goals first
    | exact kb_true (by decide +kernel) h
    | exact kb_false (by decide +kernel) h
section
variable {c : Cfg} {Ω : Str → FSem} {tc : SigT} {H0 B B' Bs H H' : Hp} {Δ Δ' : List M} {ρ ρ' : Dat} {σ σ' : List (Option V)} {T T' fr es es' : List En} {e : En} {m m' : M} {d : D} {ds ds' : Dat} {v : V} {vs us : List V} {ov : Option V} {i : Nat} {p q : Addr}
theorem SA.tyx {K : PySem.W.Frag} (hK : c.K = K) {a : String} (h : SA c H0 B H Δ ρ σ (⟨m, d, some v⟩ :: T) fr) (hm : m ≠ .dead) (ht : tagS d = some a) : TyX K H v (.type a) := by
  subst hK
  cases d with
  | non => cases ht; rw [h.isNon hm]; exact .base .non
  | bl b => cases ht; rw [h.isBl hm]; exact .base (.bl b)
  | int b => cases ht; rw [h.isInt hm]; exact .base (.int b)
  | str b => cases ht; rw [h.isStr hm]; exact .base (.str b)
  | lst ds =>
    cases ht
    obtain ⟨p, vs, rfl, s, _⟩ := h.isRefL hm
    rcases s with (s | ⟨o, s⟩) | ⟨o, its, n, s, e, _⟩
    · exact .base (.lst s)
    · exact .base (.frz s)
    · exact .kList s e
  | tup ds =>
    cases ht
    obtain ⟨p, vs, rfl, s, _⟩ := h.isRefT hm
    rcases s with (s | ⟨o, s⟩) | ⟨o, its, n, s, e, _⟩
    · exact .base (.tup s)
    · exact .fTuple s
    · exact .kTuple s e
  | _ => cases ht
theorem ICell.inH {B H : Hp} {m : M} {p dx : Addr} {o : HO} {L L' : List Addr} (b : Ex B H) (h : ICell B H m p dx o L L') : H p = some o := by
  cases m with
  | dead => exact h.elim
  | deep => exact h.2.1
  | shal => exact h.2.1
  | frz => exact b _ _ h.2.1
  | bor => exact h.2.1
theorem icOk_own {mc : MC} {C : Str} (h : icOk mc (.own C) = true) : mc.ic C = true := h
theorem se_isi {a : IE} (Ty0 : Ty) (ha : SE c Ω tc a) : SE c Ω tc (.isi a Ty0) := by
  intro X mc W C e h
  unfold matchE matchX at h
  split at h
  · rename_i x px y t pt pos
    obtain ⟨h, h7⟩ := and_of h
    obtain ⟨h, h6⟩ := and_of h
    obtain ⟨h, h5⟩ := and_of h
    obtain ⟨h, h4⟩ := and_of h
    obtain ⟨h, h3⟩ := and_of h
    obtain ⟨h1, h2⟩ := and_of h
    have e1 := of_decide_eq_true h1
    subst e1
    have e2 := of_decide_eq_true h3
    subst e2
    obtain ⟨g1, d1⟩ := glob_of C h2
    obtain ⟨g2, d2⟩ := glob_of C h4
    -- the class
    obtain ⟨cv, cu, kcv, hT, hpT⟩ : ∃ cv cu, ClsV cv cu ∧ ((∃ s, tyS1 Ty0 = some s ∧ cu = .type s) ∨ (∃ n, Ty0 = .own n ∧ Kt X.K X.mg c n cv cu)) ∧ PE X (.Name (tyName Ty0) pt) (tC cv) := by
      have bi : ∀ s : String, tyS1 Ty0 = some s → tyName Ty0 = Str.ofString s → bootBuiltins (tyName Ty0) = some (.type s) → X.mg (tyName Ty0) = none → tyName Ty0 ≠ "__name__" → ∃ cv cu, ClsV cv cu ∧ ((∃ s, tyS1 Ty0 = some s ∧ cu = .type s) ∨ (∃ n, Ty0 = .own n ∧ Kt X.K X.mg c n cv cu)) ∧ PE X (.Name (tyName Ty0) pt) (tC cv) := fun s h1 h2 h3 h4 h5 =>
        ⟨.ty s, .type s, .ty s, .inl ⟨s, h1, rfl⟩, pe_bltn g2 h4 h3 rfl h5 d2⟩
      cases Ty0 with
      | int => exact bi "int" rfl rfl (show bootBuiltins "int" = _ by decide +kernel) (C.bt "int" (by simp)) (show ("int" : Str) ≠ "__name__" by decide)
      | bool => exact bi "bool" rfl rfl (show bootBuiltins "bool" = _ by decide +kernel) (C.bt "bool" (by simp)) (show ("bool" : Str) ≠ "__name__" by decide)
      | list => exact bi "list" rfl rfl (show bootBuiltins "list" = _ by decide +kernel) (C.bt "list" (by simp)) (show ("list" : Str) ≠ "__name__" by decide)
      | tuple => exact bi "tuple" rfl rfl (show bootBuiltins "tuple" = _ by decide +kernel) (C.bt "tuple" (by simp)) (show ("tuple" : Str) ≠ "__name__" by decide)
      | str => exact bi "str" rfl rfl (show bootBuiltins "str" = _ by decide +kernel) (C.bt "str" (by simp)) (show ("str" : Str) ≠ "__name__" by decide)
      | own n =>
        obtain ⟨v, u, k⟩ := C.kt n h5
        have rv : RelV v u := by cases k.cv <;> exact rfl
        refine ⟨v, u, k.cv, .inr ⟨n, rfl, k⟩, ?_⟩
        rcases k.mg with z | ⟨z1, z2, z3⟩
        · exact pe_glob g2 z rv d2
        · exact pe_bltn g2 z1 z2 rv z3 d2
    refine PE.imp (pe_callB (call_isi.or call_isx) g1 (C.bt "isinstance" (by simp)) (show bootBuiltins "isinstance" = _ by decide +kernel) (pa_cons (ha X mc W C _ h7) (pa_cons hpT pa_nil (star_of rfl)) (star_of h6)) (by decide) d1 (star_of h6) (by rw [star_of rfl]; rfl)) fun σ H Q q => ?_
    refine tE_one q (fun x ρ1 Qd => match isiD Ty0 x with | some b => Qd (.bl b) ρ1 | none => False) (fun _ => rfl) (fun _ _ _ => rfl) fun x ρ1 Qd w H0 B H Δ T fr ma v sa n1 kk => ?_
    show (fun xs H Q => _ ∨ _) [v, cv] H Q
    split at w
    · rename_i b hb
      have fin := kk _ w _ rep_bl
      cases x with
      | hole => cases Ty0 <;> cases hb
      | dct kvs => cases Ty0 <;> cases hb
      | ins C' ns ds =>
        rcases hT with ⟨s, hs, _⟩ | ⟨n, rfl, k⟩
        · cases Ty0 <;> first | (cases hb; done) | (cases hs; done)
        · obtain ⟨w', L, e, r⟩ := sa.rep n1 (fun z => nomatch z)
          cases e
          unfold Rep at r
          obtain ⟨p, a', dx, fs, L', rfl, ec, en, _, q'⟩ := r
          have hb' : (if isExc C' = true then none else some (subX C' n)) = some b := hb
          cases hx : isExc C' with
          | true => rw [hx, if_pos rfl] at hb'; cases hb'
          | false =>
            rw [hx, if_neg Bool.false_ne_true] at hb'
            cases hb'
            have F := k.ins C' a' ec hx
            exact .inl ⟨_, _, _, _, _, rfl, kcv, .base (F _ _ _ _ (q'.inH sa.ha.bh)), k.own C' a' ec, fin⟩
      | exc C' ns ds =>
        rcases hT with ⟨s, hs, _⟩ | ⟨n, rfl, k⟩
        · cases Ty0 <;> first | (cases hb; done) | (cases hs; done)
        · obtain ⟨w', L, e, r⟩ := sa.rep n1 (fun z => nomatch z)
          cases e
          unfold Rep at r
          obtain ⟨_, p, a', dx, fs, rfl, ec, eb, en, _, q'⟩ := r
          have hb' : (if isExc C' = true ∧ ns = [] then some (subX C' n) else none) = some b := hb
          split at hb'
          · rename_i hx
            cases hb'
            cases dx with
            | none => exact .inr ⟨p, a', cv, cu, _, rfl, kcv, sa.ha.bh _ _ eb, k.ex C' a' ec hx.1, k.own C' a' ec, fin⟩
            | some d => exact absurd hx.2 q'.1
          · cases hb'
      | non =>
        rcases hT with ⟨s, hs, rfl⟩ | ⟨n, rfl, k⟩
        · exact .inl ⟨_, _, _, _, _, rfl, kcv, sa.tyx C.k n1 rfl, kit_ty (kit_bb hb rfl hs), fin⟩
        · cases hb
          exact .inl ⟨_, _, _, _, _, rfl, kcv, sa.tyx C.k n1 rfl, k.bt _ (by simp [bts]), fin⟩
      | _ =>
        rcases hT with ⟨s, hs, rfl⟩ | ⟨n, rfl, k⟩
        · exact .inl ⟨_, _, _, _, _, rfl, kcv, sa.tyx C.k n1 rfl, kit_ty (kit_bb hb rfl hs), fin⟩
        · cases hb
    · exact w.elim
  · cases h
end
end FM

set_option Elab.async false
set_option linter.all false
set_option maxRecDepth 100000
namespace FM
open PySem L2
theorem optG_of {α : Type} {o : Option α} {K : α → Prop} (h : optG o K) : ∃ x, o = some x ∧ K x := by
  cases o with
  | none => exact h.elim
  | some x => exact ⟨x, rfl, h⟩
theorem asD_of {x : D} {K : List (List Int × Int) → Prop} (h : asD x K) : ∃ kvs, x = .dct kvs ∧ K kvs := by
  cases x <;> first | exact h.elim | exact ⟨_, rfl, h⟩
theorem intsOf_eq : ∀ {ds : Dat} {ns : List Int}, intsOf ds = some ns → ds = ns.map D.int
  | [], ns, h => by
    cases h; rfl
  | d :: ds, ns, h => by
    unfold intsOf at h
    cases d with
    | int i =>
      obtain ⟨r, hr, e⟩ := Option.map_eq_some_iff.mp h
      subst e
      rw [intsOf_eq hr]; rfl
    | _ => cases h
theorem keyD_of {x : D} {K : List Int → Prop} (h : keyD x K) : ∃ ns, x = .tup (ns.map D.int) ∧ K ns := by
  unfold keyD at h
  split at h
  · split at h
    · rename_i hn
      rw [intsOf_eq hn]
      exact ⟨_, rfl, h⟩
    · exact h.elim
  · exact h.elim
theorem seqD_of {x : D} {K : Dat → Prop} (h : seqD x K) : ∃ xs, (x = .lst xs ∨ x = .tup xs) ∧ K xs := by
  cases x <;> first | exact h.elim | exact ⟨_, .inl rfl, h⟩ | exact ⟨_, .inr rfl, h⟩
section
variable {c : Cfg} {Ω : Str → FSem} {tc : SigT} {H0 B B' Bs H H' : Hp} {Δ Δ' : List M} {ρ ρ' : Dat} {σ σ' : List (Option V)} {T T' fr es es' : List En} {e : En} {m m' : M} {d : D} {ds ds' : Dat} {v : V} {vs us : List V} {ov : Option V} {i : Nat} {p q : Addr}
/-! ### dicts -/
theorem HA.newD (h : HA c H0 B H es fr) (n : H p = none) : HA c H0 B (upd H p (.dT [])) (⟨.deep, .dct [], some (.ref p)⟩ :: es) fr := by
  obtain ⟨L1, L2, h1, h2, nd, f0, fb, ow⟩ := h.own
  have g : Ex H (upd H p (.dT [])) := Ex.new n
  have np := not_mem_of ow n
  refine ⟨⟨p :: L1, L2, ⟨[p], L1, rfl, (EnR.some_iff (m := .deep) (fun z => nomatch z)).mpr ?_, h1.mono Ex.rfl' (fun _ _ o => g _ o) (.inl g)⟩, h2.mono Ex.rfl' (fun _ _ o => g _ o) (.inl g), List.nodup_cons.mpr ⟨np, nd⟩, fun x hx => ?_, fun x hx => ?_⟩, h.bh.tr g, h.h0.tr g, h.nb⟩
  · unfold Rep
    exact ⟨p, rfl, rfl, upd_same⟩
  · rcases List.mem_cons.mp hx with rfl | hx
    · exact Ex.back h.h0 n
    · exact f0 x hx
  · rcases List.mem_cons.mp (by simpa using hx : x ∈ p :: (L1 ++ L2)) with rfl | hx
    · exact Ex.back h.bh n
    · exact fb x hx
theorem SA.isTrk {ns : List Int} (h : SA c H0 B H Δ ρ σ (⟨m, .tup (ns.map D.int), some v⟩ :: T) fr) (hm : m ≠ .dead) : ∃ q, v = .ref q ∧ H q = some (.tup (ns.map V.int)) := by
  obtain ⟨w, L, e, r⟩ := h.rep hm (fun z => nomatch z)
  cases e
  unfold Rep at r
  obtain ⟨q, vs, rfl, s, r⟩ := r
  have : ∀ {ns : List Int} {vs : List V} {L : List Addr}, Reps c B H (ns.map D.int) m vs L → vs = ns.map V.int := by
    intro ns
    induction ns with
    | nil => intro vs L h; exact (Reps.nil_iff.mp h).1
    | cons n ns ih =>
      intro vs L h
      obtain ⟨v, vs', L1, L2, rfl, rfl, h1, h2⟩ := Reps.cons_iff.mp h
      unfold Rep at h1
      rw [h1.2, ih h2]; rfl
  rw [this r] at s
  exact ⟨q, rfl, h.ha.bh _ _ s⟩
def keyOf (ns : List Int) : List L2.Key := ns.map Sum.inl
theorem keyOf_inj {a b : List Int} : keyOf a = keyOf b ↔ a = b := by
  constructor
  · intro h
    have : ∀ {a b : List Int}, keyOf a = keyOf b → a = b := by
      intro a
      induction a with
      | nil =>
        intro b h
        cases b with
        | nil => rfl
        | cons _ _ => cases h
      | cons x a ih =>
        intro b h
        cases b with
        | nil => cases h
        | cons y b =>
          have h' : (Sum.inl x :: keyOf a : List L2.Key) = Sum.inl y :: keyOf b := h
          injection h' with h1 h2
          injection h1 with h1
          rw [h1, ih h2]
    exact this h
  · rintro rfl; rfl
theorem keyOf_kV (ns : List Int) : (keyOf ns).map kV = ns.map V.int := by
  unfold keyOf
  rw [List.map_map]; rfl
def dctK (kvs : List (List Int × Int)) : List (List L2.Key × V) := kvs.map fun p => (keyOf p.1, V.int p.2)
theorem dctV_eq (kvs : List (List Int × Int)) : dctV kvs = .dT (dctK kvs) := rfl
theorem valV_dct : ∀ (kvs : List (List Int × Int)) (ns : List Int), valV (dctK kvs) (keyOf ns) = (getD' kvs ns).map V.int
  | [], ns => rfl
  | p :: kvs, ns => by
    have ih := valV_dct kvs ns
    by_cases e : p.1 = ns
    · rw [show dctK (p :: kvs) = (keyOf p.1, V.int p.2) :: dctK kvs from rfl, valV_pos (by rw [e])]
      unfold getD'
      rw [List.find?_cons_of_pos (by simpa using e)]
      rfl
    · rw [show dctK (p :: kvs) = (keyOf p.1, V.int p.2) :: dctK kvs from rfl, valV_neg (fun z => e (keyOf_inj.mp z)), ih]
      unfold getD'
      rw [List.find?_cons_of_neg (by simpa using e)]
theorem putK_dct (kvs : List (List Int × Int)) (ns : List Int) (n : Int) : putK (dctK kvs) (keyOf ns) (V.int n) = dctK (putD kvs ns n) := by
  unfold putK putD dctK
  have e : ((kvs.map fun p => (keyOf p.1, V.int p.2)).any fun kv => decide (kv.1 = keyOf ns)) = kvs.any fun p => decide (p.1 = ns) := by
    rw [List.any_map]
    congr 1
    funext p
    exact decide_eq_decide.mpr keyOf_inj
  rw [e]
  split
  · rw [List.map_map, List.map_map]
    refine List.map_congr_left fun p _ => ?_
    by_cases z : p.1 = ns
    · simp [z]
    · have : ¬ keyOf p.1 = keyOf ns := fun q => z (keyOf_inj.mp q)
      simp [z, this]
  · simp
theorem SA.isDct {kvs : List (List Int × Int)} (h : SA c H0 B H Δ ρ σ (⟨m, .dct kvs, some v⟩ :: T) fr) (hm : m ≠ .dead) : ∃ p, v = .ref p ∧ Rd H p (.dT (dctK kvs)) := by
  obtain ⟨w, L, e, r⟩ := h.rep hm (fun z => nomatch z)
  cases e
  unfold Rep at r
  obtain ⟨p, rfl, q⟩ := r
  refine ⟨p, rfl, ?_⟩
  cases m with
  | dead => exact absurd rfl hm
  | deep => exact .inl q.2
  | shal => exact .inl q.2
  | frz => exact Rd.ex h.ha.bh q.2
  | bor => exact q.2
theorem se_dnew : SE c Ω tc .dnew := by
  intro X mc W C e h
  unfold matchE matchX at h
  split at h
  · refine PE.imp pe_dnewT fun σ H Q q => ?_
    obtain ⟨H0, B, Δ, ρ, T, fr, m, Δ', Qd, Xd, sa, ty, wp, xc, k⟩ := q
    simp only [tyE, Option.some.injEq, Prod.mk.injEq, List.cons.injEq, and_true] at ty
    obtain ⟨rfl, rfl⟩ := ty
    intro p np
    exact k _ _ wp _ B _ Ex.rfl' (Ex.new np) ⟨HA.newD (es := T ++ slots Δ ρ σ) sa.ha np, sa.l1, sa.l2⟩ (fun z => nomatch z)
  · cases h
theorem hu1 {X : Cx} {mc : MC} {W : WX} (C : Ctx X c Ω tc mc W) : X.A.units + 1 < cLine := Nat.lt_of_le_of_lt (by omega) C.hu
theorem se_dget {a b : IE} (ha : SE c Ω tc a) (hb : SE c Ω tc b) : SE c Ω tc (.dget a b) := by
  intro X mc W C e h
  unfold matchE matchX at h
  split at h
  · obtain ⟨h, h2⟩ := and_of h
    obtain ⟨h0, h1⟩ := and_of h
    refine PE.imp (pe_dget (hu1 C) (ha X mc W C _ h1) (hb X mc W C _ h2) (plainIx_of h0)) fun σ H Q q => tE_two q (fun x y ρ2 Qd => asD x fun kvs => keyD y fun ns => optG (getD' kvs ns) fun n => Qd (.int n) ρ2) (fun _ => rfl) (fun _ _ _ => rfl)
        fun x y ρ2 Qd w H0 B H Δ T fr ma mb v u sa n1 n2 kk => ?_
    obtain ⟨kvs, rfl, w1⟩ := asD_of w
    obtain ⟨ns, rfl, w2⟩ := keyD_of w1
    obtain ⟨n, en, w3⟩ := optG_of w2
    obtain ⟨p, rfl, hp⟩ := sa.drop.isDct n1
    obtain ⟨q, rfl, hq⟩ := sa.isTrk n2
    exact ⟨p, .int n, rfl, .inr ⟨_, keyOf ns, q, hp, rfl, by rw [keyOf_kV]; exact hq, by rw [valV_dct, en]; rfl⟩, kk _ w3 _ rep_int⟩
  · cases h
theorem se_get {a b d0 : IE} (ha : SE c Ω tc a) (hb : SE c Ω tc b) (hd : SE c Ω tc d0) : SE c Ω tc (.get a b d0) := by
  intro X mc W C e h
  unfold matchE matchX at h
  split at h
  · rename_i v0 f apos x y cpos
    obtain ⟨h, h8⟩ := and_of h
    obtain ⟨h, h7⟩ := and_of h
    obtain ⟨h, h6⟩ := and_of h
    obtain ⟨h, h5⟩ := and_of h
    obtain ⟨h, h4⟩ := and_of h
    obtain ⟨h, h3⟩ := and_of h
    obtain ⟨h1, h2⟩ := and_of h
    have e1 := of_decide_eq_true h1
    subst e1
    have tr : starEach [x, y] X.env = [(false, eval x X.env), (false, eval y X.env)] := by
      rw [star_of h3, star_of h4]; rfl
    have m2 : M2 X v0 "get" apos x y cpos := ⟨attrBase_of h2, by rw [tr]; rfl, h8, by rw [tr]; rfl⟩
    refine PE.imp (pe_dget2 (hu1 C) (ha X mc W C _ h5) (hb X mc W C _ h6) (hd X mc W C _ h7) m2) fun σ H Q q => ?_
    obtain ⟨H0, B, Δ, ρ, T, fr, m, Δ', Qd, Xd, sa, ty, wp, xc, k⟩ := q
    simp only [tyE] at ty
    obtain ⟨ma, Δ1, t1, ty⟩ := bind1 ty
    obtain ⟨mb, Δ2, t2, ty⟩ := bind1 ty
    obtain ⟨md, Δ3, t3, ty⟩ := bind1 ty
    obtain ⟨xa, hxa, ty⟩ := bindO ty
    obtain ⟨xb, hxb, ty⟩ := bindO ty
    obtain ⟨xd, hxd, ty⟩ := bindO ty
    cases one_of hxa
    cases one_of hxb
    cases one_of hxd
    cases ty
    -- what the dict is, is known at the end alone: it is asked of the first value ahead
    refine ⟨H0, B, Δ, ρ, T, fr, xa, Δ1, _, Xd, sa, t1, wp, xc, fun d1 ρ1 w1 v1 B1 H1 b1 g1 sa1 n1 => ?_⟩
    obtain ⟨kvs, rfl, w1'⟩ := asD_of w1
    obtain ⟨p, rfl, hp⟩ := sa1.isDct n1
    refine ⟨p, rfl, .inr ⟨_, hp⟩, H0, B1, _, ρ1, _, fr, xb, _, _, Xd, sa1, t2, w1', xc.step1 b1 g1, fun d2 ρ2 w2 v2 B2 H2 b2 g2 sa2 n2 => ?_⟩
    refine ⟨H0, B2, _, ρ2, _, fr, xd, _, _, Xd, sa2, t3, w2, (xc.step1 b1 g1).step1 b2 g2, fun d3 ρ3 w3 v3 B3 H3 b3 g3 sa3 n3 => ?_⟩
    obtain ⟨ns, rfl, w4⟩ := keyD_of w3
    obtain ⟨n, rfl, w5⟩ := asI_of w4
    obtain rfl := sa3.isInt n3
    obtain ⟨q, rfl, hq⟩ := sa3.drop.isTrk n2
    obtain ⟨p', ep, hp3⟩ := sa3.drop.drop.isDct n1
    cases ep
    refine ⟨(valV (dctK kvs) (keyOf ns)), .inr ⟨_, keyOf ns, q, hp3, rfl, by rw [keyOf_kV]; exact hq, rfl⟩, ?_⟩
    have e : (valV (dctK kvs) (keyOf ns)).getD (V.int n) = V.int ((getD' kvs ns).getD n) := by
      rw [valV_dct]
      cases getD' kvs ns <;> rfl
    rw [e]
    exact k _ ρ3 w5 _ B3 H3 ((b1.tr b2).tr b3) ((g1.tr g2).tr g3) (sa3.drop.drop.drop.scal (fun z => nomatch z) rep_int) (fun z => nomatch z)
  · cases h
theorem pairsD_of : ∀ {xs : Dat} {ps : List (List Int × Int)}, pairsD xs = some ps → xs = ps.map fun p => .tup [.tup (p.1.map D.int), .int p.2]
  | [], _, h => by cases h; rfl
  | d :: ds, ps, h => by
    unfold pairsD at h
    split at h
    · cases ‹_ :: _ = []›
    · rename_i ks n r he
      cases he
      split at h
      · rename_i ns rr h1 h2
        cases h
        rw [intsOf_eq h1, pairsD_of h2]; rfl
      · cases h
    · cases h
theorem Reps.intsV : ∀ {ns : List Int} {vs : List V} {L : List Addr}, Reps c B H (ns.map D.int) m vs L → vs = ns.map V.int
  | [], _, _, h => (Reps.nil_iff.mp h).1
  | n :: ns, _, _, h => by
    obtain ⟨v, vs', L1, L2, rfl, rfl, h1, h2⟩ := Reps.cons_iff.mp h
    unfold Rep at h1
    rw [h1.2, Reps.intsV h2]; rfl
theorem Reps.pairs (b : Ex B H) : ∀ {ps : List (List Int × Int)} {vs : List V} {L : List Addr}, Reps c B H (ps.map fun p => .tup [.tup (p.1.map D.int), .int p.2]) m vs L → ∃ as : List Addr, vs = as.map V.ref ∧ PairsT c.K H as (dctK ps)
  | [], _, _, h => ⟨[], (Reps.nil_iff.mp h).1, .nil⟩
  | p :: ps, _, _, h => by
    obtain ⟨v, vs', L1, L2, rfl, rfl, h1, h2⟩ := Reps.cons_iff.mp h
    obtain ⟨as, rfl, pr⟩ := Reps.pairs b h2
    unfold Rep at h1
    obtain ⟨a, ws, rfl, s, r⟩ := h1
    obtain ⟨v1, ws1, L3, L4, rfl, rfl, r1, r2⟩ := Reps.cons_iff.mp r
    obtain ⟨v2, ws2, L5, L6, rfl, rfl, r3, r4⟩ := Reps.cons_iff.mp r2
    obtain ⟨rfl, _⟩ := Reps.nil_iff.mp r4
    unfold Rep at r3
    obtain ⟨_, rfl⟩ := r3
    unfold Rep at r1
    obtain ⟨q, us, rfl, sq, rq⟩ := r1
    rw [Reps.intsV rq] at sq
    exact ⟨a :: as, rfl, .cons ⟨q, SqT.of (b _ _ s), by rw [keyOf_kV]; exact b _ _ sq⟩ pr⟩
theorem foldK_dct : ∀ (ps : List (List Int × Int)) (acc : List (List Int × Int)), (dctK ps).foldl (fun a p => putK a p.1 p.2) (dctK acc) = dctK (ps.foldl (fun a p => putD a p.1 p.2) acc)
  | [], _ => rfl
  | p :: ps, acc => by
    show (dctK ps).foldl (fun a p => putK a p.1 p.2) (putK (dctK acc) (keyOf p.1) (V.int p.2)) = _
    rw [putK_dct, foldK_dct ps]; rfl
theorem HA.newD' {kvs : List (List Int × Int)} (h : HA c H0 B H es fr) (n : H p = none) : HA c H0 B (upd H p (dctV kvs)) (⟨.deep, .dct kvs, some (.ref p)⟩ :: es) fr := by
  obtain ⟨L1, L2, h1, h2, nd, f0, fb, ow⟩ := h.own
  have g : Ex H (upd H p (dctV kvs)) := Ex.new n
  have np := not_mem_of ow n
  refine ⟨⟨p :: L1, L2, ⟨[p], L1, rfl, (EnR.some_iff (m := .deep) (fun z => nomatch z)).mpr ?_, h1.mono Ex.rfl' (fun _ _ o => g _ o) (.inl g)⟩, h2.mono Ex.rfl' (fun _ _ o => g _ o) (.inl g), List.nodup_cons.mpr ⟨np, nd⟩, fun x hx => ?_, fun x hx => ?_⟩, h.bh.tr g, h.h0.tr g, h.nb⟩
  · unfold Rep
    exact ⟨p, rfl, rfl, upd_same⟩
  · rcases List.mem_cons.mp hx with rfl | hx
    · exact Ex.back h.h0 n
    · exact f0 x hx
  · rcases List.mem_cons.mp (by simpa using hx : x ∈ p :: (L1 ++ L2)) with rfl | hx
    · exact Ex.back h.bh n
    · exact fb x hx
/-- one operand, then any new thing -/
theorem tE_new {a ie : IE} {W : WX} {σ : L2.St} {H : Hp} {Q : VK} {r : V → Hp → Prop} (q : tE c Ω tc W ie σ H Q) (k1 : D → Dat → (D → Dat → Prop) → Prop)
    (hty : ∀ Δ, tyE tc ie Δ = (tyE tc a Δ).bind fun (ma, Δ1) => (one? ma).bind fun _ => some ([.deep], Δ1))
    (hwp : ∀ ρ Q X, wpE Ω ie ρ Q X = wpE Ω a ρ (fun x ρ1 => k1 x ρ1 Q) X)
    (fin : ∀ x ρ1 Qd, k1 x ρ1 Qd → ∀ H0 B H Δ T fr ma v, SA c H0 B H Δ ρ1 σ (⟨ma, x, some v⟩ :: T) fr → ma ≠ .dead →
      (∀ d, Qd d ρ1 → ∀ w B' H', Ex B B' → Ex H H' → SA c H0 B' H' Δ ρ1 σ (⟨.deep, d, some w⟩ :: T) fr → Q w H') → r v H) :
    tE c Ω tc W a σ H fun x H1 => r x H1 := by
  obtain ⟨H0, B, Δ, ρ, T, fr, m, Δ', Qd, Xd, sa, ty, wp, xc, k⟩ := q
  rw [hty] at ty
  obtain ⟨ma, Δ1, h1, ty⟩ := bind1 ty
  obtain ⟨x, hx, ty⟩ := bindO ty
  cases one_of hx
  cases ty
  rw [hwp] at wp
  refine ⟨H0, B, Δ, ρ, T, fr, x, _, _, Xd, sa, h1, wp, xc, fun d1 ρ1 w1 v1 B1 H1 b1 g1 sa1 n1 => ?_⟩
  refine fin d1 ρ1 Qd w1 H0 B1 H1 _ T fr x v1 sa1 n1 fun d hd w B2 H2 b2 g2 sa2 => ?_
  exact k d ρ1 hd w B2 H2 (b1.tr b2) (g1.tr g2) sa2 (fun z => nomatch z)
theorem tE_arg {ie : IE} {W : WX} {e1 : IE} {rr : List V → Hp → VK → Prop} {σ : L2.St} {H : Hp} {Q : VK} (q : tE c Ω tc W e1 σ H fun x H1 => rr [x] H1 Q) : tCB rr (tCons (tE c Ω tc W e1) tNil) σ H Q := q
theorem se_dictOf {a : IE} (ha : SE c Ω tc a) : SE c Ω tc (.dictOf a) := by
  intro X mc W C e h
  unfold matchE matchX at h
  split at h
  · rename_i x p0 y pos
    obtain ⟨h, h4⟩ := and_of h
    obtain ⟨h, h3⟩ := and_of h
    obtain ⟨h1, h2⟩ := and_of h
    have e1 := of_decide_eq_true h1
    subst e1
    obtain ⟨g, db⟩ := glob_of C h2
    have hu : X.A.units + 2 < cLine := Nat.lt_of_le_of_lt (by omega) C.hu
    refine PE.imp (pe_callTy (call_dictPT C.calm hu) g (C.bt "dict" (by simp)) (show bootBuiltins "dict" = _ by decide +kernel) (pa_cons (ha X mc W C _ h4) pa_nil (star_of h3)) (by decide) db (star_of h3) rfl) fun σ H Q q => ?_
    refine tE_new q (fun x ρ1 Qd => asL x fun xs => optG (pairsD xs) fun ps => Qd (.dct (ps.foldl (fun a p => putD a p.1 p.2) [])) ρ1) (fun _ => rfl) (fun _ _ _ => rfl) fun x ρ1 Qd w H0 B H Δ T fr ma v sa n1 kk => ?_
    obtain ⟨xs, rfl, w1⟩ := asL_of w
    obtain ⟨ps, ep, w2⟩ := optG_of w1
    rw [pairsD_of ep] at sa
    obtain ⟨p, vs, rfl, s, l, q1⟩ := sa.isRefL n1
    obtain ⟨L, r⟩ := q1.repsL (M.inner_live n1) l
    obtain ⟨as, rfl, pr⟩ := Reps.pairs sa.ha.bh r
    rw [C.k] at s pr
    refine ⟨p, as, dctK ps, rfl, s, pr, fun p' np => ?_⟩
    have ef : (dctK ps).foldl (fun a p => putK a p.1 p.2) [] = dctK (ps.foldl (fun a p => putD a p.1 p.2) []) := foldK_dct ps []
    rw [ef]
    exact kk _ w2 _ B _ Ex.rfl' (Ex.new np) ⟨HA.newD' (es := T ++ slots Δ ρ1 σ) sa.drop.ha np, sa.l1, sa.l2⟩
  · cases h
theorem pys_len : ∀ {xs : Dat} {ps : List PyData}, D.pys xs = some ps → ps.length = xs.length
  | [], _, h => by cases h; rfl
  | d :: ds, ps, h => by
    unfold D.pys at h
    split at h
    · rename_i h1 h2
      cases h
      rw [List.length_cons, List.length_cons, pys_len h2]
    · cases h
/-- the sorted places of a list -/
theorem ord_both {xs : Dat} {vs : List V} {ps : List PyData} (l1 : vs.length = xs.length) (l2 : ps.length = xs.length) : ∃ js : List Nat, (∀ j ∈ js, j < xs.length) ∧ (ordL (·.2) (xs.zip ps)).map (·.1) = js.map (fun j => xs.getD j .hole) ∧ (ordL (·.2) (vs.zip ps)).map (·.1) = js.map (fun j => vs.getD j .non) := by
  refine ⟨(ordL (fun j => ps.getD j .none) (List.range xs.length)), fun j hj => ?_, ?_, ?_⟩
  · have := (List.mergeSort_perm (List.range xs.length) (PySem.W.dataLe false fun j => ps.getD j .none)).mem_iff.mp hj
    exact List.mem_range.mp this
  · have e : xs.zip ps = (List.range xs.length).map fun j => (xs.getD j .hole, ps.getD j .none) := by
      refine List.ext_getElem (by simp [l2]) fun i h1 h2 => ?_
      have hi : i < xs.length := by simpa using h2
      simp [List.getD_eq_getElem?_getD, hi, show i < ps.length by omega]
    unfold ordL
    rw [e, ← List.map_mergeSort (r := PySem.W.dataLe false fun j => ps.getD j .none) (f := fun j => (xs.getD j .hole, ps.getD j .none)) (fun a _ b _ => rfl), List.map_map]
    rfl
  · have e : vs.zip ps = (List.range xs.length).map fun j => (vs.getD j .non, ps.getD j .none) := by
      refine List.ext_getElem (by simp [l1, l2]) fun i h1 h2 => ?_
      have hi : i < xs.length := by simpa using h2
      simp [List.getD_eq_getElem?_getD, show i < vs.length by omega, show i < ps.length by omega]
    unfold ordL
    rw [e, ← List.map_mergeSort (r := PySem.W.dataLe false fun j => ps.getD j .none) (f := fun j => (vs.getD j .non, ps.getD j .none)) (fun a _ b _ => rfl), List.map_map]
    rfl
theorem imms_getD : ∀ {xs : Dat} (j : Nat), D.imms xs = true → j < xs.length → (xs.getD j .hole).imm = true
  | [], _, _, h => absurd h (Nat.not_lt_zero _)
  | d :: ds, 0, h, _ => by
    have h' : (d.imm && D.imms ds) = true := h
    exact (and_of h').1
  | d :: ds, j + 1, h, hl => by
    have h' : (d.imm && D.imms ds) = true := h
    exact imms_getD (xs := ds) j (and_of h').2 (Nat.lt_of_succ_lt_succ hl)
theorem Reps.at : ∀ {xs : Dat} {vs : List V} {j : Nat}, Reps c B H xs .deep vs [] → j < xs.length → Rep c B H (xs.getD j .hole) .deep (vs.getD j .non) []
  | [], _, _, _, h => absurd h (Nat.not_lt_zero _)
  | d :: ds, _, j, h, hl => by
    obtain ⟨v, vs', L1, L2, rfl, e, h1, h2⟩ := Reps.cons_iff.mp h
    obtain ⟨rfl, rfl⟩ := List.append_eq_nil_iff.mp e.symm
    cases j with
    | zero => exact h1
    | succ j => exact Reps.at (xs := ds) h2 (Nat.lt_of_succ_lt_succ hl)
theorem Reps.pick {xs : Dat} {vs : List V} (r : Reps c B H xs .deep vs []) : ∀ {js : List Nat}, (∀ j ∈ js, j < xs.length) → Reps c B H (js.map fun j => xs.getD j .hole) .deep (js.map fun j => vs.getD j .non) []
  | [], _ => Reps.nil_iff.mpr ⟨rfl, rfl⟩
  | j :: js, h => Reps.cons_iff.mpr ⟨_, _, [], [], rfl, rfl, Reps.at r (h j List.mem_cons_self), Reps.pick r fun x hx => h x (List.mem_cons_of_mem _ hx)⟩
theorem se_srt {a : IE} (ha : SE c Ω tc a) : SE c Ω tc (.srt a) := by
  intro X mc W C e h
  unfold matchE matchX at h
  split at h
  · rename_i x p0 y pos
    obtain ⟨h, h4⟩ := and_of h
    obtain ⟨h, h3⟩ := and_of h
    obtain ⟨h1, h2⟩ := and_of h
    have e1 := of_decide_eq_true h1
    subst e1
    obtain ⟨g, db⟩ := glob_of C h2
    refine PE.imp (pe_callB (cr_sortD C.hu) g (C.bt "sorted" (by simp)) (show bootBuiltins "sorted" = _ by decide +kernel) (pa_cons (ha X mc W C _ h4) pa_nil (star_of h3)) (by decide) db (star_of h3) rfl) fun σ H Q q => ?_
    refine tE_new q (fun x ρ1 Qd => srtD x fun z => Qd z ρ1) (fun _ => rfl) (fun _ _ _ => rfl) fun x ρ1 Qd w H0 B H Δ T fr ma v sa n1 kk => ?_
    obtain ⟨xs, hx, ⟨im, w1⟩⟩ := seqD_of w
    obtain ⟨ps, ep, ⟨ok, w2⟩⟩ := optG_of w1
    obtain ⟨p, vs, m1, rfl, s, l, n2, sa1⟩ : ∃ p vs m1, v = .ref p ∧ (SqL c.K H p vs ∨ SqT c.K H p vs) ∧ vs.length = xs.length ∧ m1 ≠ M.dead ∧ SA c H0 B H Δ ρ1 σ (ents m1 xs vs ++ T) fr := by
      rcases hx with rfl | rfl
      · obtain ⟨p, vs, rfl, s, l, q1⟩ := sa.isRefL n1
        exact ⟨p, vs, _, rfl, .inl s, l, M.inner_live n1, q1⟩
      · obtain ⟨p, vs, rfl, s, l, q1⟩ := sa.isRefT n1
        exact ⟨p, vs, _, rfl, .inr s, l, n1, q1⟩
    obtain ⟨r, _⟩ := sa1.imms n2 l im
    have dp := Reps.dp sa.ha.bh r ep
    rw [C.k] at s dp
    refine ⟨p, vs, ps, rfl, s, dp, ok, fun p' np => ?_⟩
    obtain ⟨js, hj, e1, e2⟩ := ord_both l (pys_len ep)
    rw [e1] at w2
    rw [e2]
    refine kk _ w2 _ B _ Ex.rfl' (Ex.new np) ?_
    exact SA.newL (m := .deep) (sa.drop.addI (m := .deep) (fun z => nomatch z) (Reps.pick r hj)) (.inl rfl) (by simp) np
  · cases h
theorem flV_of : ∀ {x : D} {v w : V} {L : List Addr}, flD x = some v → Rep c B H x m w L → w = v ∧ flatV v = true
  | .non, _, _, _, e, r => by
    cases e; unfold Rep at r; exact ⟨r.2, rfl⟩
  | .bl _, _, _, _, e, r => by
    cases e; unfold Rep at r; exact ⟨r.2, rfl⟩
  | .int _, _, _, _, e, r => by
    cases e; unfold Rep at r; exact ⟨r.2, rfl⟩
  | .str _, _, _, _, e, r => by
    cases e; unfold Rep at r; exact ⟨r.2, rfl⟩
  | .tup _, _, _, _, e, _ => by cases e
  | .lst _, _, _, _, e, _ => by cases e
  | .dct _, _, _, _, e, _ => by cases e
  | .ins _ _ _, _, _, _, e, _ => by cases e
  | .exc _ _ _, _, _, _, e, _ => by cases e
  | .hole, _, _, _, e, _ => by cases e
theorem flVs_of : ∀ {xs : Dat} {vs ws : List V} {L : List Addr}, flDs xs = some vs → Reps c B H xs m ws L → ws = vs ∧ vs.all flatV = true
  | [], _, _, _, e, r => by
    cases e; exact ⟨(Reps.nil_iff.mp r).1, rfl⟩
  | d :: ds, vs, ws, L, e, r => by
    unfold flDs at e
    split at e
    · rename_i v vs' h1 h2
      cases e
      obtain ⟨w, ws', L1, L2, rfl, rfl, r1, r2⟩ := Reps.cons_iff.mp r
      obtain ⟨rfl, f1⟩ := flV_of h1 r1
      obtain ⟨rfl, f2⟩ := flVs_of h2 r2
      exact ⟨rfl, by rw [List.all_cons, f1, f2]; rfl⟩
    · cases e
theorem isin_key {X : Cx} {mc : MC} {W : WX} (C : Ctx X c Ω tc mc W) (neg : Bool) {a b : IE} {σ : L2.St} {H : Hp} {Q : VK} (q : tE c Ω tc W (.isin neg a b) σ H Q) : tOp (rIn X.K neg) (tE c Ω tc W a) (tE c Ω tc W b) σ H Q := by
  refine tE_two q (fun x y ρ2 Qd => seqD y fun ys => optG (flD x) fun v => optG (flDs ys) fun vs => Qd (.bl (if neg = true then !inV v vs else inV v vs)) ρ2) (fun _ => rfl) (fun _ _ _ => rfl)
        fun x y ρ2 Qd w H0 B H Δ T fr ma mb v u sa n1 n2 kk => ?_
  obtain ⟨ys, hy, w1⟩ := seqD_of w
  obtain ⟨v1, e1, w2⟩ := optG_of w1
  obtain ⟨vs, e2, w3⟩ := optG_of w2
  obtain ⟨w', L, ew, r1⟩ := sa.drop.rep n1 (by rintro rfl; cases e1)
  cases ew
  obtain ⟨rfl, f1⟩ := flV_of e1 r1
  obtain ⟨p, ws, m1, rfl, s, l, n3, sa1⟩ : ∃ p ws m1, u = .ref p ∧ (SqL c.K H p ws ∨ SqT c.K H p ws) ∧ ws.length = ys.length ∧ m1 ≠ M.dead ∧ SA c H0 B H Δ ρ2 σ (ents m1 ys ws ++ (⟨ma, x, some v⟩ :: T)) fr := by
    rcases hy with rfl | rfl
    · obtain ⟨p, vs, rfl, s, l, q1⟩ := sa.isRefL n2
      exact ⟨p, vs, _, rfl, .inl s, l, M.inner_live n2, q1⟩
    · obtain ⟨p, vs, rfl, s, l, q1⟩ := sa.isRefT n2
      exact ⟨p, vs, _, rfl, .inr s, l, n2, q1⟩
  obtain ⟨L2, r2⟩ := sa1.repsL n3 l
  obtain ⟨rfl, f2⟩ := flVs_of e2 r2
  rw [C.k] at s
  refine ⟨p, ws, rfl, s, f1, f2, ?_⟩
  have := kk _ w3 _ rep_bl
  cases neg <;> exact this
theorem isin_op {X : Cx} (neg : Bool) : OpR X (compareOp (if neg = true then .NotIn else .In)) (rIn X.K neg) := by
  cases neg
  · exact op_in_seq
  · exact op_notIn_seq
theorem se_isin (neg : Bool) {a b : IE} (ha : SE c Ω tc a) (hb : SE c Ω tc b) : SE c Ω tc (.isin neg a b) := by
  intro X mc W C e h
  unfold matchE matchX at h
  split at h
  · obtain ⟨h, h3⟩ := and_of h
    obtain ⟨h, h2⟩ := and_of h
    obtain ⟨h0, h1⟩ := and_of h
    have e0 := of_decide_eq_true h0
    subst e0
    refine PE.imp (pe_cmpR (isin_op neg) (ha X mc W C _ h1) (hb X mc W C _ h2) ?_) fun σ H Q q => isin_key C neg q
    simpa using h3
  · cases h
theorem te_isin (neg : Bool) {a b : IE} (ha : SE c Ω tc a) (hb : SE c Ω tc b) : STe c Ω tc (.isin neg a b) := by
  intro X mc W C e h
  unfold matchE matchX at h
  split at h
  · obtain ⟨h, h3⟩ := and_of h
    obtain ⟨h, h2⟩ := and_of h
    obtain ⟨h0, h1⟩ := and_of h
    have e0 := of_decide_eq_true h0
    subst e0
    refine PT.imp (pt_cmpR (isin_op neg) (ha X mc W C _ h1) (hb X mc W C _ h2) ?_) fun σ H Q q => isin_key C neg (tTe_tE q)
    simpa using h3
  · cases h
theorem strsOf_eq : ∀ {ds : Dat} {ns : List Str}, strsOf ds = some ns → ds = ns.map D.str
  | [], ns, h => by
    cases h; rfl
  | d :: ds, ns, h => by
    unfold strsOf at h
    cases d with
    | str i =>
      obtain ⟨r, hr, e⟩ := Option.map_eq_some_iff.mp h
      subst e
      rw [strsOf_eq hr]; rfl
    | _ => cases h
theorem Reps.strsV : ∀ {ns : List Str} {vs : List V} {L : List Addr}, Reps c B H (ns.map D.str) m vs L → vs = ns.map V.str
  | [], _, _, h => (Reps.nil_iff.mp h).1
  | n :: ns, _, _, h => by
    obtain ⟨v, vs', L1, L2, rfl, rfl, h1, h2⟩ := Reps.cons_iff.mp h
    unfold Rep at h1
    rw [h1.2, Reps.strsV h2]; rfl
theorem se_join {a b : IE} (ha : SE c Ω tc a) (hb : SE c Ω tc b) : SE c Ω tc (.join a b) := by
  intro X mc W C e h
  unfold matchE matchX at h
  split at h
  · rename_i v0 f apos x cpos
    obtain ⟨h, h6⟩ := and_of h
    obtain ⟨h, h5⟩ := and_of h
    obtain ⟨h, h4⟩ := and_of h
    obtain ⟨h, h3⟩ := and_of h
    obtain ⟨h1, h2⟩ := and_of h
    have e1 := of_decide_eq_true h1
    subst e1
    refine PE.imp (pe_join (ha X mc W C _ h4) (hb X mc W C _ h5) (by rw [star_of h3]; rfl) (attrBase_of h2) h6) fun σ H Q q => ?_
    obtain ⟨H0, B, Δ, ρ, T, fr, m, Δ', Qd, Xd, sa, ty, wp, xc, k⟩ := q
    simp only [tyE] at ty
    obtain ⟨ma, Δ1, t1, ty⟩ := bind1 ty
    obtain ⟨mb, Δ2, t2, ty⟩ := bind1 ty
    obtain ⟨xa, hxa, ty⟩ := bindO ty
    obtain ⟨xb, hxb, ty⟩ := bindO ty
    cases one_of hxa
    cases one_of hxb
    cases ty
    refine ⟨H0, B, Δ, ρ, T, fr, xa, Δ1, _, Xd, sa, t1, wp, xc, fun d1 ρ1 w1 v1 B1 H1 b1 g1 sa1 n1 => ?_⟩
    obtain ⟨t, rfl, w2⟩ := asS_of w1
    obtain rfl := sa1.isStr n1
    refine ⟨⟨_, rfl⟩, H0, B1, _, ρ1, _, fr, xb, _, _, Xd, sa1, t2, w2, xc.step1 b1 g1, fun d2 ρ2 w3 v2 B2 H2 b2 g2 sa2 n2 => ?_⟩
    obtain ⟨ys, rfl, w4⟩ := asL_of w3
    obtain ⟨ts, et, ⟨hl, w5⟩⟩ := optG_of w4
    rw [strsOf_eq et] at sa2
    obtain ⟨p, vs, rfl, s, l, q1⟩ := sa2.isRefL n2
    obtain ⟨L, r⟩ := q1.repsL (M.inner_live n2) l
    rw [Reps.strsV r, C.k] at s
    exact ⟨t, p, ts, rfl, rfl, .inl s, Nat.le_trans hl (by decide), k _ ρ2 w5 _ B2 H2 (b1.tr b2) (g1.tr g2) (sa2.drop.drop.scal (fun z => nomatch z) rep_str) (fun z => nomatch z)⟩
  · cases h
end
end FM

set_option Elab.async false
set_option linter.all false
set_option maxRecDepth 100000
namespace FM
open PySem L2
section
variable {c : Cfg} {Ω : Str → FSem} {tc : SigT} {H0 B B' Bs H H' : Hp} {Δ Δ' : List M} {ρ ρ' : Dat} {σ σ' : List (Option V)} {T T' fr es es' : List En} {e : En} {m m' : M} {d : D} {ds ds' : Dat} {v : V} {vs us : List V} {ov : Option V} {i : Nat} {p q : Addr}
/-! ### the world while a dict is locked -/
/-- H1 is H, but for a dict that is locked -/
structure Lk (H H1 : Hp) : Prop where
  lk : ∀ a o, H a = some o → H1 a = some o ∨ (∃ kvs od, o = .dT kvs ∧ H1 a = some (.frz od o))
theorem Lk.sqL {K : PySem.W.Frag} {H1 : Hp} (k : Lk H H1) (h : SqL K H p vs) : SqL K H1 p vs := by
  rcases h with (h | ⟨o, h⟩) | h
  · rcases k.lk _ _ h with z | ⟨_, _, z, _⟩
    · exact .inl (.inl z)
    · cases z
  · rcases k.lk _ _ h with z | ⟨_, _, z, _⟩
    · exact .inl (.inr ⟨o, z⟩)
    · cases z
  · exact .inr h
theorem Lk.same {H1 : Hp} {o : HO} (k : Lk H H1) (h : H p = some o) (n : ∀ kvs, o ≠ .dT kvs) : H1 p = some o := by
  rcases k.lk _ _ h with z | ⟨kvs, _, z, _⟩
  · exact z
  · exact absurd z (n kvs)
mutual
theorem Rep.lock {c : Cfg} {H H1 : Hp} (k : Lk H H1) : ∀ {d : D} {v : V}, Rep c H H d .frz v [] → Rep c H1 H1 d .frz v []
  | .hole, _, h => by unfold Rep at h ⊢; exact h
  | .non, _, h => by unfold Rep at h ⊢; exact h
  | .bl _, _, h => by unfold Rep at h ⊢; exact h
  | .int _, _, h => by unfold Rep at h ⊢; exact h
  | .str _, _, h => by unfold Rep at h ⊢; exact h
  | .tup ds, _, h => by
    unfold Rep at h ⊢
    obtain ⟨p, vs, e, s, r⟩ := h
    exact ⟨p, vs, e, k.same s (fun _ z => nomatch z), Reps.lock k r⟩
  | .lst ds, _, h => by
    unfold Rep at h ⊢
    obtain ⟨p, vs, L', e, r, q⟩ := h
    have q1 : ([] : List Addr) = L' := q.1
    subst q1
    exact ⟨p, vs, [], e, Reps.lock k r, rfl, k.sqL q.2⟩
  | .dct kvs, _, h => by
    unfold Rep at h ⊢
    obtain ⟨p, e, q⟩ := h
    refine ⟨p, e, rfl, ?_⟩
    rcases q.2 with z | ⟨o, z⟩
    · rcases k.lk _ _ z with z | ⟨_, od, _, z⟩
      · exact .inl z
      · exact .inr ⟨od, z⟩
    · exact .inr ⟨o, k.same z (fun _ z => nomatch z)⟩
  | .ins C ns ds, _, h => by
    unfold Rep at h ⊢
    obtain ⟨p, a, dx, fs, L', e, ec, en, r, q⟩ := h
    have q1 : ([] : List Addr) = L' := q.1
    subst q1
    exact ⟨p, a, dx, fs, [], e, ec, en, Reps.lock k r, rfl, k.same q.2.1 (fun _ z => nomatch z), k.same q.2.2 (fun _ z => nomatch z)⟩
  | .exc C ns ds, _, h => by
    unfold Rep at h ⊢
    obtain ⟨eL, p, a, dx, fs, e, ec, eb, en, r, q⟩ := h
    refine ⟨rfl, p, a, dx, fs, e, ec, k.same eb (fun _ z => nomatch z), en, Reps.lockD k r, ?_⟩
    cases dx with
    | none => exact q
    | some d => exact ⟨q.1, k.same q.2 (fun _ z => nomatch z)⟩
theorem Reps.lock {c : Cfg} {H H1 : Hp} (k : Lk H H1) : ∀ {ds : List D} {vs : List V}, Reps c H H ds .frz vs [] → Reps c H1 H1 ds .frz vs []
  | [], _, h => Reps.nil_iff.mpr (Reps.nil_iff.mp h)
  | d :: ds, _, h => by
    obtain ⟨v, vs', L1, L2, rfl, e, h1, h2⟩ := Reps.cons_iff.mp h
    obtain ⟨rfl, rfl⟩ := List.append_eq_nil_iff.mp e.symm
    exact Reps.cons_iff.mpr ⟨v, vs', [], [], rfl, rfl, Rep.lock k h1, Reps.lock k h2⟩
/-- what is all owned and owns nothing -/
theorem Rep.lockD {c : Cfg} {H H1 : Hp} (k : Lk H H1) : ∀ {d : D} {v : V}, Rep c H H d .deep v [] → Rep c H1 H1 d .deep v []
  | .hole, _, h => by unfold Rep at h ⊢; exact h
  | .non, _, h => by unfold Rep at h ⊢; exact h
  | .bl _, _, h => by unfold Rep at h ⊢; exact h
  | .int _, _, h => by unfold Rep at h ⊢; exact h
  | .str _, _, h => by unfold Rep at h ⊢; exact h
  | .tup ds, _, h => by
    unfold Rep at h ⊢
    obtain ⟨p, vs, e, s, r⟩ := h
    exact ⟨p, vs, e, k.same s (fun _ z => nomatch z), Reps.lockD k r⟩
  | .lst ds, _, h => by
    unfold Rep at h
    obtain ⟨p, vs, L', e, r, q⟩ := h
    exact absurd q.1 (by simp)
  | .dct kvs, _, h => by
    unfold Rep at h
    obtain ⟨p, e, q⟩ := h
    exact absurd q.1 (by simp)
  | .ins C ns ds, _, h => by
    unfold Rep at h
    obtain ⟨p, a, dx, fs, L', e, ec, en, r, q⟩ := h
    exact absurd q.1 (by simp)
  | .exc C ns ds, _, h => by
    unfold Rep at h ⊢
    obtain ⟨eL, p, a, dx, fs, e, ec, eb, en, r, q⟩ := h
    refine ⟨rfl, p, a, dx, fs, e, ec, k.same eb (fun _ z => nomatch z), en, Reps.lockD k r, ?_⟩
    cases dx with
    | none => exact q
    | some d => exact ⟨q.1, k.same q.2 (fun _ z => nomatch z)⟩
theorem Reps.lockD {c : Cfg} {H H1 : Hp} (k : Lk H H1) : ∀ {ds : List D} {vs : List V}, Reps c H H ds .deep vs [] → Reps c H1 H1 ds .deep vs []
  | [], _, h => Reps.nil_iff.mpr (Reps.nil_iff.mp h)
  | d :: ds, _, h => by
    obtain ⟨v, vs', L1, L2, rfl, e, h1, h2⟩ := Reps.cons_iff.mp h
    obtain ⟨rfl, rfl⟩ := List.append_eq_nil_iff.mp e.symm
    exact Reps.cons_iff.mpr ⟨v, vs', [], [], rfl, rfl, Rep.lockD k h1, Reps.lockD k h2⟩
end
theorem EnRs.lock {H1 : Hp} (k : Lk H H1) : ∀ {es : List En}, (∀ e ∈ es, e.m = .frz ∨ e.m = .dead ∨ e.d = .hole) → EnRs c H H es [] → EnRs c H1 H1 es []
  | [], _, _ => rfl
  | ⟨m, d, v⟩ :: es, hm, h => by
    obtain ⟨L1, L2, e, h1, h2⟩ := h
    obtain ⟨rfl, rfl⟩ := List.append_eq_nil_iff.mp e.symm
    refine ⟨[], [], rfl, ?_, EnRs.lock k (fun x hx => hm x (List.mem_cons_of_mem _ hx)) h2⟩
    rcases h1 with h1 | ⟨n, w, e1, r⟩
    · exact .inl h1
    · rcases hm _ List.mem_cons_self with z | z | z
      · have z : m = .frz := z
        subst z
        exact .inr ⟨n, w, e1, Rep.lock k r⟩
      · exact absurd z n
      · exact .inl ⟨rfl, .inr z⟩
theorem slots_lent_frz : ∀ {Δ : List M} {ρ : Dat} {σ : List (Option V)}, ∀ e ∈ slots (Δ.map lentM) ρ σ, e.m = .frz ∨ e.m = .dead ∨ e.d = .hole
  | [], _, _, e, he => by simp [slots] at he
  | _ :: _, [], _, e, he => by simp [slots] at he
  | _ :: _, _ :: _, [], e, he => by simp [slots] at he
  | m :: Δ, d :: ρ, v :: σ, e, he => by
    rcases List.mem_cons.mp (show e ∈ (⟨lentM m, d, v⟩ : En) :: slots (Δ.map lentM) ρ σ from he) with z | z
    · rw [z]
      cases m <;> first | exact .inl rfl | exact .inr (.inl rfl)
    · exact slots_lent_frz e z
/-- a tuple that stands is frozen -/
theorem HA.addTup (h : HA c H0 B H es fr) (hq : H q = some (.tup vs)) : ∃ B', Ex B B' ∧ B' q = some (.tup vs) ∧ HA c H0 B' H es fr := by
  obtain ⟨L1, L2, h1, h2, nd, f0, fb, ow⟩ := h.own
  have b : Ex B (upd B q (.tup vs)) := fun a o e => by
    by_cases z : a = q
    · subst z
      rw [h.bh _ _ e] at hq
      rw [upd_same]; exact hq.symm
    · rw [upd_ne z]; exact e
  refine ⟨upd B q (.tup vs), b, upd_same, ⟨⟨L1, L2, h1.mono b (fun _ _ o e => e) (.inl Ex.rfl'), h2.mono b (fun _ _ o e => e) (.inl Ex.rfl'), nd, f0, fun x hx => ?_⟩, fun a o e => ?_, h.h0, h.nb⟩⟩
  · by_cases z : x = q
    · subst z
      obtain ⟨o, eo, t⟩ := ow x hx
      rw [hq] at eo
      cases eo
      cases t
    · rw [upd_ne z]; exact fb x hx
  · by_cases z : a = q
    · subst z
      rw [upd_same] at e
      rw [hq]; exact e
    · rw [upd_ne z] at e; exact h.bh a o e
theorem HA.keyTup {ns : List Int} (h : HA c H0 B H es fr) (hq : H q = some (.tup (ns.map V.int))) : ∃ B', Ex B B' ∧ HA c H0 B' H (⟨.frz, .tup (ns.map D.int), some (.ref q)⟩ :: es) fr := by
  obtain ⟨B', b, e, h'⟩ := h.addTup hq
  refine ⟨B', b, h'.scal (fun z => nomatch z) ?_⟩
  unfold Rep
  exact ⟨q, _, rfl, e, reps_ints ns⟩
/-- the iterator over the locked dict gives these items -/
theorem itok_dict {kvs : List (List Int × Int)} {od : Obj} (hp : Bs p = some (.frz od (.dT (dctK kvs)))) : ItOk c (ItiT p od (dctK kvs)) (itemsD false kvs) Bs := by
  intro B2 H2 b bh i
  have hH := bh _ _ (b _ _ hp)
  have hl : (dctK kvs).length = (itemsD false kvs).length := by unfold dctK itemsD; simp
  refine ⟨fun d hd => ?_, fun hle => ⟨hH, by rw [hl]; exact hle⟩⟩
  have hi : i < (itemsD false kvs).length := (List.getElem?_eq_some_iff.mp hd).1
  refine ⟨⟨hH, by rw [hl]; exact hi⟩, ?_⟩
  rintro x H3 ⟨T0, k, v, q, hk, rfl, hT, hq, rfl⟩ H0 es fr ha
  unfold itemsD at hd
  rw [List.getElem?_map] at hd
  obtain ⟨⟨ns, n⟩, e1, rfl⟩ := Option.map_eq_some_iff.mp hd
  unfold dctK at hk
  rw [List.getElem?_map, e1] at hk
  cases hk
  rw [keyOf_kV] at hq
  obtain ⟨B3, b3, ha3⟩ := ha.keyTup hq
  have ha4 : HA c H0 B3 H2 (ents .frz [.tup (ns.map D.int), .int n] [.ref q, .int n] ++ es) fr := (HA.scal ha3 (m := .frz) (d := .int n) (v := .int n) (fun z => nomatch z) rep_int).perm (List.Perm.swap ..)
  obtain ⟨b5, ha5⟩ := HA.newT (m := .frz) ha4 (fun z => nomatch z) rfl hT
  exact ⟨_, b3.tr b5, Ex.new hT, ha5⟩
theorem itok_dictK {kvs : List (List Int × Int)} {od : Obj} (hp : Bs p = some (.frz od (.dT (dctK kvs)))) : ItOk c (Itkt p od (dctK kvs)) (itemsD true kvs) Bs := by
  intro B2 H2 b bh i
  have hH := bh _ _ (b _ _ hp)
  have hl : (dctK kvs).length = (itemsD true kvs).length := by unfold dctK itemsD; simp
  refine ⟨fun d hd => ?_, fun hle => ⟨hH, by rw [hl]; exact hle⟩⟩
  have hi : i < (itemsD true kvs).length := (List.getElem?_eq_some_iff.mp hd).1
  refine ⟨⟨hH, by rw [hl]; exact hi⟩, ?_⟩
  rintro x H3 ⟨rfl, k, v, q, hk, rfl, hq⟩ H0 es fr ha
  unfold itemsD at hd
  rw [List.getElem?_map] at hd
  obtain ⟨⟨ns, n⟩, e1, rfl⟩ := Option.map_eq_some_iff.mp hd
  unfold dctK at hk
  rw [List.getElem?_map, e1] at hk
  cases hk
  rw [keyOf_kV] at hq
  obtain ⟨B3, b3, ha3⟩ := ha.keyTup hq
  exact ⟨B3, b3, Ex.rfl', ha3⟩
/-- what is new, where the dict is no longer locked -/
theorem Rep.reBH {H H' : Hp} {L : List Addr} (b : ∀ p o, B p = some o → isTup o = true → B' p = some o) (l : ∀ p ∈ L, ∀ o, H p = some o → H' p = some o) (h : Rep c B H d .deep v L) : Rep c B' H' d .deep v L :=
  Rep.mono (B := B') ⟨Ex.rfl', l, (fun z => nomatch z)⟩ (Rep.reB b h)
theorem HA.unlock {H1 B2 : Hp} {od : Obj} {u : HO} (hu : H p = some u) (h1 : H1 = upd H p (.frz od u)) (hb : Ex H1 B2) (h : HA c H1 B2 H' [⟨.deep, d, some v⟩] []) :
    Ex H (upd B2 p u) ∧ Ex H (upd H' p u) ∧ HA c H (upd B2 p u) (upd H' p u) [⟨.deep, d, some v⟩] [] := by
  have ex : Ex H (upd B2 p u) := fun a o e => by
    by_cases z : a = p
    · subst z
      rw [upd_same, ← hu]; exact e
    · rw [upd_ne z]
      exact hb a o (by rw [h1, upd_ne z]; exact e)
  have ex2 : Ex (upd B2 p u) (upd H' p u) := fun a o e => by
    by_cases z : a = p
    · subst z
      rw [upd_same] at e ⊢; exact e
    · rw [upd_ne z] at e ⊢
      exact h.bh a o e
  obtain ⟨_, L2, ⟨L1, L3, rfl, r1, r3⟩, r2, nd, f0, fb⟩ := h.ex
  have e3 : L3 = [] := r3
  have e2 : L2 = [] := r2
  subst e3 e2
  have hp1 : H1 p = some (.frz od u) := by rw [h1, upd_same]
  have np : ∀ x ∈ L1, x ≠ p := by
    rintro x hx rfl
    have := f0 x (List.mem_append_left _ hx)
    rw [hp1] at this
    cases this
  refine ⟨ex, ex.tr ex2, ⟨⟨L1 ++ [], [], ⟨L1, [], rfl, ?_, rfl⟩, rfl, nd, fun x hx => ?_, fun x hx => ?_⟩, ex2, ex.tr ex2, h.nb⟩⟩
  · have r := (EnR.some_iff (m := .deep) (fun z => nomatch z)).mp r1
    refine (EnR.some_iff (m := .deep) (fun z => nomatch z)).mpr (Rep.reBH (fun a o e t => ?_) (fun a ha o e => ?_) r)
    · have n : a ≠ p := by
        rintro rfl
        rw [hb _ _ hp1] at e
        cases e
        cases t
      rw [upd_ne n]; exact e
    · rw [upd_ne (np a ha)]; exact e
  · have n := np x (by simpa using hx)
    have := f0 x hx
    rw [h1, upd_ne n] at this
    exact this
  · have n := np x (by simpa using hx)
    rw [upd_ne n]
    exact fb x hx
/-- the loop of a comprehension over a locked dict -/
theorem lcI_key {K : PySem.W.Frag} (hK : c.K = K) {own : List (Str × Nat)} {elt cond : IE} {tg : Tg} {keys : Bool} {W : WX} {tt : TT} (hin : tgIn own tg = true) {td : TI}
    (htd : ∀ σ H R p od kvs, H p = some (.frz od (.dT (dctK kvs))) → σ[i]? = some (some (.ref p)) → (∀ J : It, (∀ Bs, Bs p = some (.frz od (.dT (dctK kvs))) → ItOk c J (itemsD keys kvs) Bs) → R J H) → td σ H R)
    (htt : ∀ σ H Q, tTe c Ω ⟨tc.sg, none⟩ (fun _ _ _ _ => False) cond σ H Q → tt σ H Q) {σ : L2.St} {H : Hp} {Q : VK} (h : tE c Ω tc W (.lcI own elt tg keys i cond) σ H Q) :
    tLockE (tLc td (gTg K tg) tt (tE c Ω ⟨tc.sg, none⟩ (fun _ _ _ _ => False) elt) (own.map (·.2))) σ H Q := by
  obtain ⟨H0, B, Δ, ρ, T, fr, m, Δ', Qd, Xd, sa, ty, wp, xc, k⟩ := h
  simp only [tyE] at ty
  obtain ⟨x0, hx0, ty⟩ := bindO ty
  obtain ⟨mc, Δc, t2, ty⟩ := bind1 ty
  obtain ⟨me, Δe, t3, ty⟩ := bind1 ty
  obtain ⟨y2, hy2, ty⟩ := bindO ty
  obtain ⟨y3, hy3, ty9⟩ := bindO ty
  cases one_of hy2
  cases one_of hy3
  have k9 : (x0 = .deep ∧ y3 = .deep) ∧ ([m], Δ') = ([M.deep], Δ) := by
    split at ty9
    · rename_i hx
      exact ⟨hx, (Option.some.inj ty9).symm⟩
    · cases ty9
  obtain ⟨⟨rfl, rfl⟩, e9⟩ := k9
  cases e9
  obtain ⟨kvs, ek, hlim, w1⟩ := asD_of wp
  obtain ⟨w, hw, er, hil, sa0⟩ := sa.slot hx0 (by rw [ek]; trivial) (fun z => nomatch z)
  rw [ek] at sa0
  obtain ⟨p, rfl, hp⟩ : ∃ p, w = .ref p ∧ H p = some (.dT (dctK kvs)) := by
    obtain ⟨w', L, e, r⟩ := sa0.rep (fun z => nomatch z) (fun z => nomatch z)
    cases e
    unfold Rep at r
    obtain ⟨p, rfl, q⟩ := r
    exact ⟨p, rfl, q.2⟩
  refine ⟨p, _, hp, trivial, fun od => ?_⟩
  have hk1 : Lk H (upd H p (.frz od (.dT (dctK kvs)))) := ⟨fun a o e => by
    by_cases z : a = p
    · subst z
      rw [hp] at e
      cases e
      exact .inr ⟨_, od, rfl, upd_same⟩
    · exact .inl (by rw [upd_ne z]; exact e)⟩
  generalize hH1 : upd H p (.frz od (.dT (dctK kvs))) = H1 at hk1
  have hp1 : H1 p = some (.frz od (.dT (dctK kvs))) := by rw [← hH1, upd_same]
  refine htd σ H1 _ p od kvs hp1 hw fun J hJ => ?_
  have it1 := hJ H1 hp1
  intro D nD
  have hil2 : (itemsD keys kvs).length = kvs.length := by unfold itemsD; simp
  -- what the block sees
  obtain ⟨Ls, hs⟩ : ∃ L, EnRs c B H (slots Δ ρ σ) L := by
    obtain ⟨_, L2, h1, h2, _⟩ := sa.ha.ex
    obtain ⟨_, L4, _, _, h4⟩ := EnRs.append.mp h1
    exact ⟨L4, h4⟩
  have lw := EnRs.wiped (own := own) (EnRs.lock hk1 slots_lent_frz (hs.lent sa.ha.bh))
  have fdw : FD (tgM tg .frz (wipeM own (Δ.map lentM))) := FD.tg (FD.wipe FD.lent)
  have l1 : (wipeM own (Δ.map lentM)).length = (wipe σ (own.map (·.2))).length := by rw [wipeM_len, wipe_len, List.length_map]; exact sa.l1
  have l2 : (wipeD own ρ).length = (wipe σ (own.map (·.2))).length := by rw [wipeD_len, wipe_len]; exact sa.l2
  have i0 : HA c H1 H1 (upd H1 D (.lst [])) [⟨.deep, .lst [], some (.ref D)⟩] [] := HA.newL (m := .deep) (ds := []) (vs := []) (HA.nil c H1) (.inl rfl) rfl nD
  generalize itemsD keys kvs = ds at it1 w1 hil2
  let PV : Nat → Nat → Hp → Prop := fun i n H => n = ds.length - i ∧ i ≤ ds.length ∧ ∃ B2 ys, Ex H1 B2 ∧ HA c H1 B2 H [⟨.deep, .lst ys, some (.ref D)⟩] [] ∧ ys.length ≤ i ∧
    goLC tg (fun ρ K => wpE Ω cond ρ (fun y _ => asB y K) noX) (fun ρ K => wpE Ω elt ρ (fun y _ => K y) noX) (wipeD own ρ) (ds.drop i) fun zs => Qd (.lst (ys ++ zs)) ρ
  refine ⟨PV, ⟨ds.length, by simp, Nat.zero_le _, H1, [], Ex.rfl', i0, Nat.le_refl _, w1⟩, ?_⟩
  rintro i n H4 ⟨rfl, hi, B2, ys, b2, ha, hy, go⟩
  have okI := it1 B2 H4 b2 ha.bh i
  by_cases hlt : i < ds.length
  · have hd : ds[i]? = some ds[i] := List.getElem?_eq_getElem hlt
    obtain ⟨hgo, hyl⟩ := okI.1 _ hd
    rw [drop_at hd] at go
    refine .inr ⟨hgo, fun H' => PV (i + 1) (ds.length - (i + 1)) H', fun H' p' => ⟨_, by omega, p'⟩, fun x H3 hy3 => ?_⟩
    obtain ⟨B3, b3, g3, ha3⟩ := hyl x H3 hy3 _ _ _ ha
    have ex3 : Ex H1 B3 := b2.tr b3
    have sa3 : SA c H1 B3 H3 (wipeM own (Δ.map lentM)) (wipeD own ρ) (wipe σ (own.map (·.2))) (⟨.frz, ds[i], some x⟩ :: [⟨.deep, .lst ys, some (.ref D)⟩]) [] := SA.ofUn ha3 (lw.up ex3 (ex3.tr ha3.bh)) l1 l2
    refine gTg_run hK sa3 (fun z => nomatch z) go fun ρ' w2 σ' hw sa4 => ⟨hw _ (tgIn_of hin) |>.trans ?_, htt _ _ _ ?_⟩
    · have aux : ∀ {vs : List Nat} {σ : L2.St}, wipe (wipe σ vs) vs = wipe σ vs := by
        intro vs
        induction vs with
        | nil => intro σ; rfl
        | cons v vs ih =>
          intro σ
          show (wipe ((wipe σ vs).set v none) vs).set v none = (wipe σ vs).set v none
          rw [wipe_set2, ih]
      exact aux
    refine ⟨H1, B3, _, ρ', _, [], y2, Δc, _, noX, sa4, t2, w2, (fun _ _ z => z.elim), fun bb ρ5 w5 B5 H5 b5 g5 sa5 => ?_⟩
    have ha5 := sa5.ha.dropR
    have ls := (sa4.slotsUn fdw).up b5 g5
    cases bb with
    | false =>
      rw [if_neg Bool.false_ne_true] at w5
      refine ⟨rfl, hlt, B5, ys, ex3.tr b5, ha5, by omega, w5⟩
    | true =>
      rw [if_pos rfl] at w5
      have sa6 : SA c H1 B5 H5 (tgM tg .frz (wipeM own (Δ.map lentM))) ρ' σ' [⟨.deep, .lst ys, some (.ref D)⟩] [] := SA.ofUn ha5 ls sa4.l1 sa4.l2
      refine ⟨H1, B5, _, ρ', _, [], .deep, Δe, _, noX, sa6, t3, w5, (fun _ _ z => z.elim), fun d7 ρ7 w7 v7 B7 H7 b7 g7 sa7 n7 => ?_⟩
      have ha7 : HA c H1 B7 H7 (⟨M.deep.inner, d7, some v7⟩ :: ⟨.deep, .lst ys, some (.ref D)⟩ :: []) [] := sa7.ha.dropR
      obtain ⟨acc, hacc, hal, ha8⟩ := ha7.app (.inl rfl) (fun _ z => nomatch z)
      refine ⟨acc, hacc, ?_, rfl, hlt, B7, ys ++ [d7], (ex3.tr b5).tr b7, ha8, by simp; omega, ?_⟩
      · have : ds.length < sizeLine + 1 := Nat.lt_succ_of_le (LIM_line (by rw [hil2]; exact hlim))
        omega
      · have e : (fun zs => Qd (.lst (ys ++ [d7] ++ zs)) ρ) = fun zs => Qd (.lst (ys ++ (d7 :: zs))) ρ := by
          funext zs
          rw [List.append_assoc]; rfl
        rw [e]
        exact w7
  · have e : i = ds.length := by omega
    subst e
    refine .inl ⟨okI.2 (Nat.le_refl _), ?_⟩
    rw [List.drop_length] at go
    have go' : Qd (.lst (ys ++ [])) ρ := go
    rw [List.append_nil] at go'
    refine ⟨ha.bh _ _ (b2 _ _ hp1), ?_⟩
    obtain ⟨x1, x2, hau⟩ := HA.unlock hp hH1.symm b2 ha
    obtain ⟨bm, hm⟩ := sa.ha.lend hau x2 x1
    exact k _ ρ go' _ _ _ bm x2 ⟨hm, sa.l1, sa.l2⟩ (fun z => nomatch z)
theorem se_lcI {own : List (Str × Nat)} {elt cond : IE} {tg : Tg} {keys : Bool} (hc : tst cond = true → STe c Ω ⟨tc.sg, none⟩ cond) (he : SE c Ω ⟨tc.sg, none⟩ elt) : SE c Ω tc (.lcI own elt tg keys i cond) := by
  intro X mc W C e h
  unfold matchE matchX at h
  split at h
  · rename_i x t it ifs scope pos
    obtain ⟨h, h7⟩ := and_of h
    obtain ⟨h, h8⟩ := and_of h
    have hc := hc h8
    obtain ⟨h, h6⟩ := and_of h
    obtain ⟨h, h5⟩ := and_of h
    obtain ⟨h, h4⟩ := and_of h
    obtain ⟨h1, h2⟩ := and_of h
    have blk : BlkOk X.N X.env.scope scope own := blkOk_by (by rw [C.n, C.s]; exact h1)
    have pg := fun (s : Shared) (H : Hp) (A : Addr) (cl : List (Str × Addr)) (fp : List Addr) => pg_tg (C.blk s H scope A cl fp) h5
    have pe := fun (s : Shared) (H : Hp) (A : Addr) (cl : List (Str × Addr)) (fp : List Addr) => he _ _ _ (C.blk s H scope A cl fp) x h6
    obtain ⟨tt, htt, hpt⟩ : ∃ tt : TT, (∀ σ H Q, tTe c Ω ⟨tc.sg, none⟩ (fun _ _ _ _ => False) cond σ H Q → tt σ H Q) ∧ ∀ (s : Shared) (H : Hp) (A : Addr) (cl : List (Str × Addr)) (fp : List Addr), PTs (X.blk s H scope (compEnvC scope cl A X.env) fp) ifs tt := by
      split at h7
      · split at h7
        · refine ⟨tYes, fun σ H Q q => ?_, fun s H A cl fp => pts_nil⟩
          obtain ⟨H0, B, Δ, ρ, T, fr, m, Δ', Qd, Xd, sa, ty, wp, xc, k⟩ := q
          simp only [tyE, Option.some.injEq, Prod.mk.injEq, List.cons.injEq, and_true] at ty
          obtain ⟨rfl, rfl⟩ := ty
          exact k true ρ wp B H Ex.rfl' Ex.rfl' sa
        · cases h7
      · exact ⟨_, fun σ H Q q => q, fun s H A cl fp => pts_one (hc _ _ _ (C.blk s H scope A cl fp) _ h7)⟩
      · cases h7
    split at h4
    · rename_i y py
      refine PE.imp (pe_lock (pe_lc C.calm C.nd (pi_keys (name_of C h4)) blk pg hpt pe)) fun σ H Q q => lcI_key C.k h2 (fun σ H R p od kvs hp hw hR => ?_) htt q
      exact ⟨_, hw, p, od, rfl, .inr ⟨_, hp, hR _ fun Bs hb => itok_dictK hb⟩⟩
    · rename_i y py f apos cpos
      obtain ⟨h4, g4⟩ := and_of h4
      obtain ⟨h4, g3⟩ := and_of h4
      obtain ⟨g1, g2⟩ := and_of h4
      have e3 := of_decide_eq_true g3
      subst e3
      cases t with
      | Tuple elts kk tpos =>
        refine PE.imp (pe_lock (pe_lc C.calm C.nd (pi_itemsT (name_of C g2) rfl g4) blk pg hpt pe)) fun σ H Q q => lcI_key C.k h2 (fun σ H R p od kvs hp hw hR => ?_) htt q
        exact ⟨_, hw, p, od, _, rfl, hp, hR _ fun Bs hb => itok_dict hb⟩
      | _ => cases g1
    · cases h4
  · cases h
end
end FM

set_option Elab.async false
set_option linter.all false
set_option maxRecDepth 100000
namespace FM
open PySem L2
structure All (c : Cfg) (Ω : Str → FSem) (tc : SigT) (ie : IE) : Prop where
  se : SE c Ω tc ie
  sar : SAr c Ω tc ie
  ste : tst ie = true → STe c Ω tc ie
  pwA : tst ie = true → ∀ X mc W, Ctx X c Ω tc mc W → ∀ y z zs pos, matchE mc ie (.BoolOp .And (y :: z :: zs) pos) = true → PW X (.BoolOp .And (y :: z :: zs) pos) (tTe c Ω tc W ie)
  pwO : tst ie = true → ∀ X mc W, Ctx X c Ω tc mc W → ∀ y z zs pos, matchE mc ie (.BoolOp .Or (y :: z :: zs) pos) = true → PW X (.BoolOp .Or (y :: z :: zs) pos) (tTe c Ω tc W ie)
  si : SI c Ω tc ie
section
variable {c : Cfg} {Ω : Str → FSem} {tc : SigT}
theorem noE {ie : IE} (h : ∀ mc e, matchE mc ie e = false) : SE c Ω tc ie := fun X mc W C e q => by rw [h mc e] at q; cases q
theorem noA {ie : IE} (h : ∀ mc e, matchA mc ie e = false) : SAr c Ω tc ie := fun X mc W C e q => by rw [h mc e] at q; cases q
theorem noT {ie : IE} {P : Prop} (h : tst ie = false) : tst ie = true → P := fun q => by rw [h] at q; cases q
theorem All.plain {ie : IE} (se : SE c Ω tc ie) (hA : ∀ mc e, matchA mc ie e = false) (hI : ∀ mc t e, matchI mc ie t e = matchE mc ie e) (hT : tst ie = false) : All c Ω tc ie :=
  ⟨se, noA hA, noT hT, noT hT, noT hT, si_any se fun mc t e h => by rw [hI] at h; exact h⟩
theorem All.test {ie : IE} (se : SE c Ω tc ie) (hA : ∀ mc e, matchA mc ie e = false) (hI : ∀ mc t e, matchI mc ie t e = matchE mc ie e) (ste : STe c Ω tc ie) (nA : ∀ mc y z zs pos, matchE mc ie (.BoolOp .And (y :: z :: zs) pos) = false) (nO : ∀ mc y z zs pos, matchE mc ie (.BoolOp .Or (y :: z :: zs) pos) = false) : All c Ω tc ie :=
  ⟨se, noA hA, fun _ => ste, fun _ X mc W C y z zs pos h => (by rw [nA] at h; cases h), fun _ X mc W C y z zs pos h => (by rw [nO] at h; cases h), si_any se fun mc t e h => by rw [hI] at h; exact h⟩
theorem plain_of {ie : IE} (se : SE c Ω tc ie) (h : ∀ mc e, matchE mc ie e = true → plainT e = true) : STe c Ω tc ie := te_plain se h
theorem allE : ∀ (ie : IE) (tc : SigT), All c Ω tc ie := by
  intro ie
  induction ie with
  | int i => exact fun tc => .plain (se_int i) (fun _ _ => by unfold matchA; rfl) (fun _ _ _ => by unfold matchI matchE matchX; rfl) rfl
  | bl b =>
    refine fun tc => .test (se_bl b) (fun _ _ => by unfold matchA; rfl) (fun _ _ _ => by unfold matchI matchE matchX; rfl) (plain_of (se_bl b) fun mc e h => ?_) (fun _ _ _ _ _ => by unfold matchE matchX; rfl) (fun _ _ _ _ _ => by unfold matchE matchX; rfl)
    unfold matchE matchX at h
    split at h <;> first | rfl | cases h
  | str s => exact fun tc => .plain (se_str s) (fun _ _ => by unfold matchA; rfl) (fun _ _ _ => by unfold matchI matchE matchX; rfl) rfl
  | non => exact fun tc => .plain se_non (fun _ _ => by unfold matchA; rfl) (fun _ _ _ => by unfold matchI matchE matchX; rfl) rfl
  | gint x n =>
    refine fun tc => .test (se_gint x n) (fun _ _ => by unfold matchA; rfl) (fun _ _ _ => by unfold matchI matchE matchX; rfl) (plain_of (se_gint x n) fun mc e h => ?_) (fun _ _ _ _ _ => by unfold matchE matchX; rfl) (fun _ _ _ _ _ => by unfold matchE matchX; rfl)
    unfold matchE matchX at h
    split at h <;> first | rfl | cases h
  | lrng1 a ha => exact fun tc => .plain (se_lrng1 (ha tc).se) (fun _ _ => by unfold matchA; rfl) (fun _ _ _ => by unfold matchI matchE matchX; rfl) rfl
  | var i =>
    refine fun tc => .test (se_var i) (fun _ _ => by unfold matchA; rfl) (fun _ _ _ => by unfold matchI matchE matchX; rfl) (plain_of (se_var i) fun mc e h => ?_) (fun _ _ _ _ _ => by unfold matchE matchX; rfl) (fun _ _ _ _ _ => by unfold matchE matchX; rfl)
    unfold matchE matchX at h
    split at h <;> first | rfl | cases h
  | bor i =>
    refine fun tc => .test (se_bor i) (fun _ _ => by unfold matchA; rfl) (fun _ _ _ => by unfold matchI matchE matchX; rfl) (plain_of (se_bor i) fun mc e h => ?_) (fun _ _ _ _ _ => by unfold matchE matchX; rfl) (fun _ _ _ _ _ => by unfold matchE matchX; rfl)
    unfold matchE matchX at h
    split at h <;> first | rfl | cases h
  | mv i => exact fun tc => .plain (se_mv i) (fun _ _ => by unfold matchA; rfl) (fun _ _ _ => by unfold matchI matchE matchX; rfl) rfl
  | bin o a b ha hb => exact fun tc => .plain (se_bin o (ha tc).se (hb tc).se) (fun _ _ => by unfold matchA; rfl) (fun _ _ _ => by unfold matchI matchE matchX; rfl) rfl
  | neg a ha => exact fun tc => .plain (se_neg (ha tc).se) (fun _ _ => by unfold matchA; rfl) (fun _ _ _ => by unfold matchI matchE matchX; rfl) rfl
  | not a ha => exact fun tc => ⟨se_not (ha tc).se, noA (fun _ _ => by unfold matchA; rfl), fun h => te_not ((ha tc).ste h), fun _ X mc W C y z zs pos h => (by unfold matchE matchX at h; cases h), fun _ X mc W C y z zs pos h => (by unfold matchE matchX at h; cases h), si_any (se_not (ha tc).se) fun mc t e h => (by unfold matchI matchX at h; unfold matchE matchX; exact h)⟩
  | and a b ha hb =>
    intro tc
    have key : tst (.and a b) = true → _ := fun h => te_and ((ha tc).ste (and_of h).1) ((hb tc).ste (and_of h).2) ((hb tc).pwA (and_of h).2)
    exact ⟨se_and (ha tc).se (hb tc).se, noA (fun _ _ => by unfold matchA; rfl), fun h => (key h).1, fun h X mc W C y z zs pos q => (key h).2 X mc W C _ q, fun _ X mc W C y z zs pos h => (by unfold matchE matchX at h; cases h), si_any (se_and (ha tc).se (hb tc).se) fun mc t e h => (by unfold matchI matchX at h; unfold matchE matchX; exact h)⟩
  | or a b ha hb =>
    intro tc
    have key : tst (.or a b) = true → _ := fun h => te_or ((ha tc).ste (and_of h).1) ((hb tc).ste (and_of h).2) ((hb tc).pwO (and_of h).2)
    exact ⟨se_or (ha tc).se (hb tc).se, noA (fun _ _ => by unfold matchA; rfl), fun h => (key h).1, fun _ X mc W C y z zs pos h => (by unfold matchE matchX at h; cases h), fun h X mc W C y z zs pos q => (key h).2 X mc W C _ q, si_any (se_or (ha tc).se (hb tc).se) fun mc t e h => (by unfold matchI matchX at h; unfold matchE matchX; exact h)⟩
  | ite t a b ht ha hb => exact fun tc => .plain (se_ite (ht tc).ste (ha tc).se (hb tc).se) (fun _ _ => by unfold matchA; rfl) (fun _ _ _ => by unfold matchI matchE matchX; rfl) rfl
  | cmp o a b ha hb => exact fun tc => .test (se_cmp o (ha tc).se (hb tc).se) (fun _ _ => by unfold matchA; rfl) (fun _ _ _ => by unfold matchI matchE matchX; rfl) (te_cmp o (ha tc).se (hb tc).se) (fun _ _ _ _ _ => by unfold matchE matchX; rfl) (fun _ _ _ _ _ => by unfold matchE matchX; rfl)
  | eq n a b ha hb => exact fun tc => .test (se_eq n (ha tc).se (hb tc).se) (fun _ _ => by unfold matchA; rfl) (fun _ _ _ => by unfold matchI matchE matchX; rfl) (te_eq n (ha tc).se (hb tc).se) (fun _ _ _ _ _ => by unfold matchE matchX; rfl) (fun _ _ _ _ _ => by unfold matchE matchX; rfl)
  | isN n a ha => exact fun tc => .test (se_isN n (ha tc).se) (fun _ _ => by unfold matchA; rfl) (fun _ _ _ => by unfold matchI matchE matchX; rfl) (te_isN n (ha tc).se) (fun _ _ _ _ _ => by unfold matchE matchX; rfl) (fun _ _ _ _ _ => by unfold matchE matchX; rfl)
  | nil => exact fun tc => ⟨noE fun _ _ => (by unfold matchE matchX; rfl), sar_nil, noT rfl, noT rfl, noT rfl, si_any (noE fun _ _ => (by unfold matchE matchX; rfl)) fun mc t e h => (by unfold matchI matchX at h; unfold matchE matchX; exact h)⟩
  | cons a r ha hr => exact fun tc => ⟨noE fun _ _ => (by unfold matchE matchX; rfl), sar_cons (ha tc).se (hr tc).sar, noT rfl, noT rfl, noT rfl, si_any (noE fun _ _ => (by unfold matchE matchX; rfl)) fun mc t e h => (by unfold matchI matchX at h; unfold matchE matchX; exact h)⟩
  | lst r hr => exact fun tc => .plain (se_lst (hr tc).sar) (fun _ _ => by unfold matchA; rfl) (fun _ _ _ => by unfold matchI matchE matchX; rfl) rfl
  | tup r hr => exact fun tc => .plain (se_tup (hr tc).sar) (fun _ _ => by unfold matchA; rfl) (fun _ _ _ => by unfold matchI matchE matchX; rfl) rfl
  | ix a i ha hi =>
    refine fun tc => .test (se_ix (ha tc).se (hi tc).se) (fun _ _ => by unfold matchA; rfl) (fun _ _ _ => by unfold matchI matchE matchX; rfl) (plain_of (se_ix (ha tc).se (hi tc).se) fun mc e h => ?_) (fun _ _ _ _ _ => by unfold matchE matchX; rfl) (fun _ _ _ _ _ => by unfold matchE matchX; rfl)
    unfold matchE matchX at h
    split at h <;> first | rfl | cases h
  | slc im a lo hi ha hl hh => exact fun tc => .plain (se_slc im (ha tc).se (so_any (hl tc).se) (so_any (hh tc).se)) (fun _ _ => by unfold matchA; rfl) (fun _ _ _ => by unfold matchI matchE matchX; rfl) rfl
  | catL im a b ha hb => exact fun tc => .plain (se_catL im (ha tc).se (hb tc).se) (fun _ _ => by unfold matchA; rfl) (fun _ _ _ => by unfold matchI matchE matchX; rfl) rfl
  | catT a b ha hb => exact fun tc => .plain (se_catT (ha tc).se (hb tc).se) (fun _ _ => by unfold matchA; rfl) (fun _ _ _ => by unfold matchI matchE matchX; rfl) rfl
  | rep a b ha hb => exact fun tc => .plain (se_rep (ha tc).se (hb tc).se) (fun _ _ => by unfold matchA; rfl) (fun _ _ _ => by unfold matchI matchE matchX; rfl) rfl
  | blt f r hr =>
    refine fun tc => .test (se_blt f (hr tc).sar) (fun _ _ => by unfold matchA; rfl) (fun _ _ _ => by unfold matchI matchE matchX; rfl) (plain_of (se_blt f (hr tc).sar) fun mc e h => ?_) (fun _ _ _ _ _ => by unfold matchE matchX; rfl) (fun _ _ _ _ _ => by unfold matchE matchX; rfl)
    unfold matchE matchX at h
    split at h <;> first | rfl | cases h
  | lc own elt tg it cond he hi hc => exact fun tc => .plain (se_lc (hi tc).si (hc ⟨tc.sg, none⟩).ste (he ⟨tc.sg, none⟩).se) (fun _ _ => by unfold matchA; rfl) (fun _ _ _ => by unfold matchI matchE matchX; rfl) rfl
  | itT a ha => exact fun tc => ⟨noE fun _ _ => (by unfold matchE matchX; rfl), noA (fun _ _ => by unfold matchA; rfl), noT rfl, noT rfl, noT rfl, si_itT (ha tc).se⟩
  | itS a ha => exact fun tc => ⟨noE fun _ _ => (by unfold matchE matchX; rfl), noA (fun _ _ => by unfold matchA; rfl), noT rfl, noT rfl, noT rfl, si_itS (ha tc).se⟩
  | rng1 a ha => exact fun tc => ⟨noE fun _ _ => (by unfold matchE matchX; rfl), noA (fun _ _ => by unfold matchA; rfl), noT rfl, noT rfl, noT rfl, si_rng1 (ha tc).se⟩
  | rng2 a b ha hb => exact fun tc => ⟨noE fun _ _ => (by unfold matchE matchX; rfl), noA (fun _ _ => by unfold matchA; rfl), noT rfl, noT rfl, noT rfl, si_rng2 (ha tc).se (hb tc).se⟩
  | zip a b ha hb => exact fun tc => ⟨noE fun _ _ => (by unfold matchE matchX; rfl), noA (fun _ _ => by unfold matchA; rfl), noT rfl, noT rfl, noT rfl, si_zip (ha tc).se (hb tc).se⟩
  | enm a ha => exact fun tc => ⟨noE fun _ _ => (by unfold matchE matchX; rfl), noA (fun _ _ => by unfold matchA; rfl), noT rfl, noT rfl, noT rfl, si_enm (ha tc).se⟩
  | enmT a ha => exact fun tc => ⟨noE fun _ _ => (by unfold matchE matchX; rfl), noA (fun _ _ => by unfold matchA; rfl), noT rfl, noT rfl, noT rfl, si_enmT (ha tc).se⟩
  | trng1 a ha => exact fun tc => .plain (se_trng1 (ha tc).se) (fun _ _ => by unfold matchA; rfl) (fun _ _ _ => by unfold matchI matchE matchX; rfl) rfl
  | revR a ha => exact fun tc => ⟨noE fun _ _ => (by unfold matchE matchX; rfl), noA (fun _ _ => by unfold matchA; rfl), noT rfl, noT rfl, noT rfl, si_revR (ha tc).se⟩
  | call f r hr =>
    refine fun tc => .test (se_call f (hr tc).sar) (fun _ _ => by unfold matchA; rfl) (fun _ _ _ => by unfold matchI matchE matchX; rfl) (plain_of (se_call f (hr tc).sar) fun mc e h => ?_) (fun _ _ _ _ _ => by unfold matchE matchX; rfl) (fun _ _ _ _ _ => by unfold matchE matchX; rfl)
    unfold matchE matchX at h
    split at h <;> first | rfl | cases h
  | attr a C f => exact fun tc => .plain (noE fun _ _ => by unfold matchE matchX; rfl) (fun _ _ => by unfold matchA; rfl) (fun _ _ _ => by unfold matchI matchE matchX; rfl) rfl
  | get a k d ha hk hd => exact fun tc => .plain (se_get (ha tc).se (hk tc).se (hd tc).se) (fun _ _ => by unfold matchA; rfl) (fun _ _ _ => by unfold matchI matchE matchX; rfl) rfl
  | dnew => exact fun tc => .plain se_dnew (fun _ _ => by unfold matchA; rfl) (fun _ _ _ => by unfold matchI matchE matchX; rfl) rfl
  | dget a k ha hk => exact fun tc => .plain (se_dget (ha tc).se (hk tc).se) (fun _ _ => by unfold matchA; rfl) (fun _ _ _ => by unfold matchI matchE matchX; rfl) rfl
  | dictOf a ha => exact fun tc => .plain (se_dictOf (ha tc).se) (fun _ _ => by unfold matchA; rfl) (fun _ _ _ => by unfold matchI matchE matchX; rfl) rfl
  | srt a ha => exact fun tc => .plain (se_srt (ha tc).se) (fun _ _ => by unfold matchA; rfl) (fun _ _ _ => by unfold matchI matchE matchX; rfl) rfl
  | join a b ha hb => exact fun tc => .plain (se_join (ha tc).se (hb tc).se) (fun _ _ => by unfold matchA; rfl) (fun _ _ _ => by unfold matchI matchE matchX; rfl) rfl
  | lcI own elt tg keys i cond he hc => exact fun tc => .plain (se_lcI (hc ⟨tc.sg, none⟩).ste (he ⟨tc.sg, none⟩).se) (fun _ _ => by unfold matchA; rfl) (fun _ _ _ => by unfold matchI matchE matchX; rfl) rfl
  | isin n a b ha hb => exact fun tc => .test (se_isin n (ha tc).se (hb tc).se) (fun _ _ => by unfold matchA; rfl) (fun _ _ _ => by unfold matchI matchE matchX; rfl) (te_isin n (ha tc).se (hb tc).se) (fun _ _ _ _ _ => by unfold matchE matchX; rfl) (fun _ _ _ _ _ => by unfold matchE matchX; rfl)
  | isi a T ha =>
    refine fun tc => .test (se_isi T (ha tc).se) (fun _ _ => by unfold matchA; rfl) (fun _ _ _ => by unfold matchI matchE matchX; rfl) (plain_of (se_isi T (ha tc).se) fun mc e h => ?_) (fun _ _ _ _ _ => by unfold matchE matchX; rfl) (fun _ _ _ _ _ => by unfold matchE matchX; rfl)
    unfold matchE matchX at h
    split at h <;> first | rfl | cases h
  | imm a ha => exact fun tc => .plain (se_imm (ha tc).se) (fun _ _ => by unfold matchA; rfl) (fun _ _ _ => by unfold matchI matchE matchX; rfl) rfl
  | fz a ha => exact fun tc => .plain (se_fz (ha tc).se) (fun _ _ => by unfold matchA; rfl) (fun _ _ _ => by unfold matchI matchE matchX; rfl) rfl
  | sh a ha => exact fun tc => .plain (se_sh (ha tc).se) (fun _ _ => by unfold matchA; rfl) (fun _ _ _ => by unfold matchI matchE matchX; rfl) rfl
end
end FM

set_option Elab.async false
set_option linter.all false
set_option maxRecDepth 100000
namespace FM
open PySem L2
section
variable {c : Cfg} {Ω : Str → FSem} {tc : SigT} {H0 B B' Bs H H' : Hp} {Δ Δ' : List M} {ρ ρ' : Dat} {σ σ' : List (Option V)} {T T' fr es es' : List En} {e : En} {m m' : M} {d : D} {ds ds' : Dat} {v : V} {vs us : List V} {ov : Option V} {i : Nat} {p q : Addr}
/-! ### writing -/
theorem ents_m {m : M} : ∀ {ds : Dat} {vs : List V} {e : En}, e ∈ ents m ds vs → e.m = m
  | [], vs, e, he => by cases vs <;> simp [ents] at he
  | _ :: _, [], e, he => by simp [ents] at he
  | d :: ds, v :: vs, e, he => by
    rcases List.mem_cons.mp (show e ∈ (⟨m, d, some v⟩ : En) :: ents m ds vs from he) with z | z
    · rw [z]
    · exact ents_m z
theorem ents_set {m : M} : ∀ {ds : Dat} {vs : List V} {j : Nat} {d : D} {v : V}, vs.length = ds.length → (ents m ds vs).set j ⟨m, d, some v⟩ = ents m (ds.set j d) (vs.set j v)
  | [], [], _, _, _, _ => rfl
  | [], _ :: _, _, _, _, h => by simp at h
  | _ :: _, [], _, _, _, h => by simp at h
  | _ :: _, _ :: _, 0, _, _, _ => rfl
  | x :: ds, y :: vs, j + 1, d, v, h => by
    show ⟨m, x, some y⟩ :: (ents m ds vs).set j ⟨m, d, some v⟩ = ⟨m, x, some y⟩ :: ents m (ds.set j d) (vs.set j v)
    rw [ents_set (by simpa using h)]
theorem ents_len {m : M} : ∀ {ds : Dat} {vs : List V}, vs.length = ds.length → (ents m ds vs).length = ds.length
  | [], [], _ => rfl
  | [], _ :: _, h => by simp at h
  | _ :: _, [], h => by simp at h
  | _ :: ds, _ :: vs, h => by
    show (ents m ds vs).length + 1 = ds.length + 1
    rw [ents_len (by simpa using h)]
theorem HA.setL {j : Nat} (h : HA c H0 B H (⟨m.inner, d, some v⟩ :: ⟨m, .lst ds, some (.ref p)⟩ :: es) fr) (hm : m = .deep ∨ m = .shal) (nb : ∀ e ∈ es, e.m ≠ .bor) (hj : j < ds.length) :
    ∃ vs, H p = some (.lst vs) ∧ vs.length = ds.length ∧ HA c H0 B (upd H p (.lst (vs.set j v))) (⟨m, .lst (ds.set j d), some (.ref p)⟩ :: es) fr := by
  have h1 := h.perm (List.Perm.swap ..)
  obtain ⟨p', vs, e, hp, hl, q⟩ := h1.openC hm
  cases e
  refine ⟨vs, hp, hl, ?_⟩
  have ni : m.inner ≠ .bor := by rcases hm with rfl | rfl <;> exact fun z => nomatch z
  have q2 : HA c H0 B H (⟨m, .lst (holes vs.length), some (.ref p)⟩ :: (ents m.inner ds vs ++ ⟨m.inner, d, some v⟩ :: es)) fr := q.perm List.perm_middle
  have nb2 : ∀ e ∈ ents m.inner ds vs ++ (⟨m.inner, d, some v⟩ : En) :: es, e.m ≠ .bor := by
    intro e he
    rcases List.mem_append.mp he with z | z
    · rw [ents_m z]; exact ni
    · rcases List.mem_cons.mp z with z | z
      · rw [z]; exact ni
      · exact nb e z
  have q3 := q2.writeC hm nb2 (vs.set j v)
  have jl : j < (ents m.inner ds vs).length := by rw [ents_len hl]; exact hj
  have pe := perm_at (List.getElem?_eq_getElem jl) (⟨m.inner, d, some v⟩ : En)
  rw [ents_set hl] at pe
  have q4 : HA c H0 B (upd H p (.lst (vs.set j v))) ((ents m.inner ds vs)[j] :: (ents m.inner (ds.set j d) (vs.set j v) ++ ⟨m, .lst (holes (vs.set j v).length), some (.ref p)⟩ :: es)) fr := by
    refine q3.perm ?_
    refine (List.Perm.cons _ List.perm_middle).trans ?_
    refine (List.Perm.swap ..).trans ?_
    exact (List.Perm.cons _ List.perm_middle.symm).trans (pe.append_right _)
  exact q4.drop.closeC hm (by simp [hl]) upd_same
theorem kill_back (h : Δ[i]? = some m) (hk : killM m = m) : ((Δ.set i .dead).map killM).set i m = Δ.map killM := by
  rw [List.map_set, List.set_set]
  have h2 : (Δ.map killM)[i]? = some m := by rw [List.getElem?_map, h]; simp [hk]
  obtain ⟨hi, e⟩ := List.getElem?_eq_some_iff.mp h2
  conv => lhs; rw [← e]
  exact List.set_getElem_self _

/-! ## statements -/
def XS (c : Cfg) (tc : SigT) (W : WX) (Xd : XPost) (H0 B : Hp) (fr : List En) : Prop :=
  ∀ x ρ', Xd x ρ' → ∀ Δx cls dx B' H' σ', tc.xok Δx = true → Ex B B' → ExcR c B' H' cls dx x → SA c H0 B' H' Δx ρ' σ' [] fr → W cls dx σ' H'
theorem XS.xc {W : WX} {Xd : XPost} (h : XS c tc W Xd H0 B fr) : XC c tc W Xd H0 B H σ T fr := fun x ρ' hx Δx cls dx B' H' hk b g er sa =>
  h x ρ' hx Δx cls dx B' H' σ hk b er (SA.drops (T' := T) (T := []) (by rw [List.append_nil]; exact sa))
theorem XS.up {W : WX} {Xd : XPost} (h : XS c tc W Xd H0 B fr) (b : Ex B B') : XS c tc W Xd H0 B' fr := fun x ρ' hx Δx cls dx B2 H' σ' hk b2 er sa => h x ρ' hx Δx cls dx B2 H' σ' hk (b.tr b2) er sa
def tS (c : Cfg) (Ω : Str → FSem) (ci : Str → Option (List Str)) (tc : SigT) (W : WX) (res : M) (is : IS) : TS := fun D σ H => ∃ H0 B Δ ρ fr P o,
  SA c H0 B H Δ ρ σ [] fr ∧ tyS tc res is Δ = some o ∧ wpS Ω ci is ρ P ∧ XS c tc W P.ex H0 B fr ∧
  (∀ Δ', o = some Δ' → ∀ ρ', P.nx ρ' → ∀ B' H' σ', Ex B B' → SA c H0 B' H' Δ' ρ' σ' [] fr → D.nx σ' H') ∧
  (∀ d, P.rt d → ∀ v B' H' m, Ex B B' → HA c H0 B' H' [⟨m, d, some v⟩] fr → okRes res m = true → D.rt v H')
def SSs (c : Cfg) (Ω : Str → FSem) (ci : Str → Option (List Str)) (tc : SigT) (res : M) (is : IS) : Prop := ∀ X mc W, Ctx X c Ω tc mc W → ∀ ss, matchS mc is ss = true → PSs X ss (tS c Ω ci tc W res is)
def SS1 (c : Cfg) (Ω : Str → FSem) (ci : Str → Option (List Str)) (tc : SigT) (res : M) (is : IS) : Prop := ∀ X mc W, Ctx X c Ω tc mc W → ∀ s, matchS1 mc is s = true → PS X s (tS c Ω ci tc W res is)
variable {ci : Str → Option (List Str)} {res : M}
theorem ss_nil : SSs c Ω ci tc res .nil := by
  intro X mc W C ss h
  unfold matchS at h
  cases ss with
  | cons _ _ => cases h
  | nil =>
    refine PSs.imp pss_nil fun D σ H q => ?_
    obtain ⟨H0, B, Δ, ρ, fr, P, o, sa, ty, wp, xs, nx, rt⟩ := q
    cases ty
    exact nx Δ rfl ρ wp B H σ Ex.rfl' sa
theorem ss_cons {s r : IS} (hs : SS1 c Ω ci tc res s) (hr : SSs c Ω ci tc res r) : SSs c Ω ci tc res (.cons s r) := by
  intro X mc W C ss h
  unfold matchS at h
  split at h
  · rename_i x xs
    obtain ⟨h1, h2⟩ := and_of h
    refine PSs.imp (pss_cons (hs X mc W C x h1) (hr X mc W C xs h2)) fun D σ H q => ?_
    obtain ⟨H0, B, Δ, ρ, fr, P, o, sa, ty, wp, xs, nx, rt⟩ := q
    simp only [tyS] at ty
    obtain ⟨o1, t1, ty⟩ := bindO ty
    refine ⟨H0, B, Δ, ρ, fr, { P with nx := fun ρ1 => wpS Ω ci r ρ1 P }, o1, sa, t1, wp, xs, fun Δ1 e1 ρ1 w1 B1 H1 σ1 b1 sa1 => ?_, rt⟩
    subst e1
    exact ⟨H0, B1, Δ1, ρ1, fr, P, o, sa1, ty, w1, xs.up b1, fun Δ2 e2 ρ2 w2 B2 H2 σ2 b2 sa2 => nx Δ2 e2 ρ2 w2 B2 H2 σ2 (b1.tr b2) sa2, fun d hd v B2 H2 m b2 ha hok => rt d hd v B2 H2 m (b1.tr b2) ha hok⟩
  · cases h
theorem ss_doc : SS1 c Ω ci tc res .doc := by
  intro X mc W C s h
  have key : ∀ D σ H, tS c Ω ci tc W res .doc D σ H → tNext D σ H := fun D σ H q => by
    obtain ⟨H0, B, Δ, ρ, fr, P, o, sa, ty, wp, xs, nx, rt⟩ := q
    cases ty
    exact nx Δ rfl ρ wp B H σ Ex.rfl' sa
  unfold matchS1 at h
  split at h
  · exact PS.imp ps_doc key
  · exact PS.imp ps_pass key
  · cases h
/-- a value put into a slot -/
theorem set_key {W : WX} {ie : IE} {D : L2.Ends} {σ : L2.St} {H : Hp} (q : tS c Ω ci tc W res (.set i ie) D σ H) : tE c Ω tc W ie σ H fun x H1 => gName i x σ H1 D.nx := by
  obtain ⟨H0, B, Δ, ρ, fr, P, o, sa, ty, wp, xs, nx, rt⟩ := q
  simp only [tyS] at ty
  obtain ⟨ms, Δ1, t1, ty⟩ := bind1 ty
  obtain ⟨y, hy, ty9⟩ := bindO ty
  cases one_of hy
  split at ty9
  · cases ty9
    exact ⟨H0, B, Δ, ρ, [], fr, y, Δ1, _, P.ex, sa, t1, wp, xs.xc, fun d ρ1 w1 v B1 H1 b1 g1 sa1 n1 => nx _ rfl _ w1 B1 H1 _ b1 sa1.putAny⟩
  · cases ty9
theorem ss_set {ie : IE} (ha : All c Ω tc ie) (hlc : ∀ own elt tg it cond, ie = .lc own elt tg it cond → SI c Ω tc it ∧ (tst cond = true → STe c Ω ⟨tc.sg, none⟩ cond) ∧ SE c Ω ⟨tc.sg, none⟩ elt) : SS1 c Ω ci tc res (.set i ie) := by
  intro X mc W C s h
  unfold matchS1 at h
  split at h
  · rename_i x px v pos
    obtain ⟨h, h3⟩ := and_of h
    obtain ⟨h1, h2⟩ := and_of h
    unfold stoOk at h1
    obtain ⟨h4, h5⟩ := and_of h1
    obtain ⟨s1, s2⟩ := C.sto x h5
    have hi : X.N[i]? = some x := by rw [C.n]; exact of_decide_eq_true h4
    rcases Bool.or_eq_true_iff.mp h3 with h3 | h3
    · have sw : swapsWith v (some (.Name x px)) pos.line X.env = pure false := by
        rcases Bool.or_eq_true_iff.mp h3 with h3 | h3
        · exact swaps_of h3
        · exact swaps_cell (by rw [C.s]; exact of_decide_eq_true h3)
      exact PS.imp (ps_set C.nd hi s1 (ha.se X mc W C v h2) sw s2) fun D σ H q => set_key q
    · obtain ⟨h3, h6⟩ := and_of h3
      obtain ⟨h7, h8⟩ := and_of h3
      cases ie with
      | lc own elt tg it cond =>
        obtain ⟨hit, hc, he⟩ := hlc own elt tg it cond rfl
        obtain ⟨x', t, i', ifs, scope, pos', rfl, L⟩ := lc_parts C hit hc he h2
        obtain ⟨tt, htt, hpt⟩ := L.pt
        unfold swB at h6
        obtain ⟨h6, h9⟩ := and_of h6
        obtain ⟨h10, h11⟩ := and_of h6
        have hloc : X.env.scope.names.lookup x = some .local := by rw [C.s]; exact of_decide_eq_true h10
        have hk : X.env.scope.kind = .function := by
          rw [C.s]
          unfold isFun at h8
          split at h8
          · assumption
          · cases h8
        exact PS.imp (ps_setLc C.calm C.nd hi hloc (sw_true hk hloc h11 (by simpa using h9)) L.pi L.blk L.pg hpt L.pe L.fold) fun D σ H q => lc_key C.k L.hin htt (set_key q)
      | _ => cases h7
  · cases h
theorem ss_unp {is : List Nat} {ie : IE} (ha : All c Ω tc ie) : SS1 c Ω ci tc res (.unp is ie) := by
  intro X mc W C s h
  unfold matchS1 at h
  split at h
  · rename_i es kk tp v pos
    obtain ⟨h, h3⟩ := and_of h
    obtain ⟨h1, h2⟩ := and_of h
    have pg : PG X (.Tuple es kk tp) (gTg X.K (.many is)) := pg_tg C (by unfold matchTg; exact h1)
    have sw : swapsWithSole [.Tuple es kk tp] v pos.line X.env = pure false := by cases v <;> first | rfl | cases h2
    have st : swappedStores [.Tuple es kk tp] v X.env = pure none := by cases v <;> first | rfl | cases h2
    refine PS.imp (ps_asg (ha.se X mc W C v h3) pg sw st) fun D σ H q => ?_
    obtain ⟨H0, B, Δ, ρ, fr, P, o, sa, ty, wp, xs, nx, rt⟩ := q
    simp only [tyS] at ty
    obtain ⟨ms, Δ1, t1, ty⟩ := bind1 ty
    obtain ⟨y, hy, ty9⟩ := bindO ty
    cases one_of hy
    split at ty9
    · cases ty9
      refine ⟨H0, B, Δ, ρ, [], fr, y, Δ1, _, P.ex, sa, t1, wp, xs.xc, fun d ρ1 w1 v B1 H1 b1 g1 sa1 n1 => ?_⟩
      exact gTg_run (tg := .many is) C.k sa1 n1 w1 fun ρ' w2 σ' _ sa2 => nx _ rfl _ w2 B1 H1 σ' b1 sa2
    · cases ty9
  · cases h
theorem joinO_none {x y : TyO} (h : joinO x y = none) : x = none ∧ y = none := by
  cases x <;> cases y <;> first | exact ⟨rfl, rfl⟩ | cases h
theorem ss_ite {ct : IE} {a b : IS} (hc : All c Ω tc ct) (ha : SSs c Ω ci tc res a) (hb : SSs c Ω ci tc res b) : SS1 c Ω ci tc res (.ite ct a b) := by
  intro X mc W C s h
  unfold matchS1 at h
  split at h
  · obtain ⟨h, h4⟩ := and_of h
    obtain ⟨h, h3⟩ := and_of h
    obtain ⟨h1, h2⟩ := and_of h
    refine PS.imp (ps_if (hc.ste h1 X mc W C _ h2) (ha X mc W C _ h3) (hb X mc W C _ h4)) fun D σ H q => ?_
    obtain ⟨H0, B, Δ, ρ, fr, P, o, sa, ty, wp, xs, nx, rt⟩ := q
    simp only [tyS] at ty
    obtain ⟨ms, Δ1, t1, ty⟩ := bind1 ty
    obtain ⟨y, hy, ty⟩ := bindO ty
    cases one_of hy
    obtain ⟨oa, ta, ty⟩ := bindO ty
    obtain ⟨ob, tb, ty9⟩ := bindO ty
    -- where both ways lead
    have lead : ∀ x, (x = oa ∨ x = ob) → ∀ Δx, x = some Δx → ∃ Δ2, o = some Δ2 ∧ leO (some Δx) Δ2 = true := by
      intro x hx Δx ex
      split at ty9
      · rename_i hj
        obtain ⟨e1, e2⟩ := joinO_none hj
        rcases hx with rfl | rfl
        · rw [e1] at ex; cases ex
        · rw [e2] at ex; cases ex
      · split at ty9
        · rename_i hle
          obtain ⟨l1, l2⟩ := and_of hle
          cases ty9
          refine ⟨_, rfl, ?_⟩
          rcases hx with rfl | rfl
          · rw [ex] at l1; exact l1
          · rw [ex] at l2; exact l2
        · cases ty9
    refine ⟨H0, B, Δ, ρ, [], fr, y, Δ1, _, P.ex, sa, t1, wp, xs.xc, fun k ρ1 w1 B1 H1 b1 g1 sa1 => ?_⟩
    cases k with
    | true =>
      refine ⟨H0, B1, Δ1, ρ1, fr, P, oa, sa1, ta, w1, xs.up b1, fun Δx ex ρ2 w2 B2 H2 σ2 b2 sa2 => ?_, fun d hd v B2 H2 m b2 ha hok => rt d hd v B2 H2 m (b1.tr b2) ha hok⟩
      obtain ⟨Δ2, eo, hle⟩ := lead oa (.inl rfl) Δx ex
      obtain ⟨B3, b3, sa3⟩ := sa2.les hle
      exact nx Δ2 eo ρ2 w2 B3 H2 σ2 ((b1.tr b2).tr b3) sa3
    | false =>
      refine ⟨H0, B1, Δ1, ρ1, fr, P, ob, sa1, tb, w1, xs.up b1, fun Δx ex ρ2 w2 B2 H2 σ2 b2 sa2 => ?_, fun d hd v B2 H2 m b2 ha hok => rt d hd v B2 H2 m (b1.tr b2) ha hok⟩
      obtain ⟨Δ2, eo, hle⟩ := lead ob (.inr rfl) Δx ex
      obtain ⟨B3, b3, sa3⟩ := sa2.les hle
      exact nx Δ2 eo ρ2 w2 B3 H2 σ2 ((b1.tr b2).tr b3) sa3
  · cases h
end
end FM

set_option Elab.async false
set_option linter.all false
set_option maxRecDepth 100000
namespace FM
open PySem L2
section
variable {c : Cfg} {Ω : Str → FSem} {tc : SigT} {H0 B B' Bs H H' : Hp} {Δ Δ' : List M} {ρ ρ' : Dat} {σ σ' : List (Option V)} {T T' fr es es' : List En} {e : En} {m m' : M} {d : D} {ds ds' : Dat} {v : V} {vs us : List V} {ov : Option V} {i : Nat} {p q : Addr} {ci : Str → Option (List Str)} {res : M}
theorem ss_for {tg : Tg} {it : IE} {inv : List M} {body : IS} (hi : All c Ω tc it) (hb : SSs c Ω ci tc res body) : SS1 c Ω ci tc res (.for tg it inv body) := by
  intro X mc W C s h
  unfold matchS1 at h
  split at h
  · rename_i t ie bd pos
    obtain ⟨h, h4⟩ := and_of h
    obtain ⟨h, h3⟩ := and_of h
    obtain ⟨h1, h2⟩ := and_of h
    refine PS.imp (ps_for C.pw C.calm (hi.si X mc W C t ie h2) (pg_tg C h3) (hb X mc W C bd h4) (folded_of h1)) fun D σ H q => ?_
    obtain ⟨H0, B, Δ, ρ, fr, P, o, sa, ty, wp, xs, nx, rt⟩ := q
    simp only [tyS] at ty
    obtain ⟨ms, Δ1, t1, ty⟩ := bind1 ty
    obtain ⟨y, hy, ty⟩ := bindO ty
    cases one_of hy
    obtain ⟨ob, tb, ty9⟩ := bindO ty
    split at ty9
    · rename_i hc
      obtain ⟨hc, c3⟩ := and_of hc
      obtain ⟨c1, c2⟩ := and_of hc
      have c3 := of_decide_eq_true c3
      dsimp only at c3 c1 tb
      subst c3
      cases ty9
      refine ⟨H0, B, Δ, ρ, [], fr, .frz, Δ1, _, P.ex, sa, t1, wp, xs.xc, fun ds ρ1 w1 Ts B1 H1 J b1 g1 sa1 _ _ itf => ?_⟩
      have it1 := itf rfl
      have sa1' : SA c H0 B1 H1 Δ1 ρ1 σ [] fr := SA.drops (T' := Ts) (T := []) sa1
      obtain ⟨B2, b2, sa2⟩ := sa1'.les c1
      let PV : Nat → Nat → L2.St → Hp → Prop := fun i n σ H => n = ds.length - i ∧ i ≤ ds.length ∧ ∃ B3 ρ, Ex B2 B3 ∧ SA c H0 B3 H inv ρ σ [] fr ∧ goFor tg (wpS Ω ci body) P (ds.drop i) ρ
      refine ⟨PV, ⟨ds.length, by simp, Nat.zero_le _, B2, ρ1, Ex.rfl', sa2, w1⟩, ?_⟩
      rintro i n σ H ⟨rfl, hi, B3, ρ2, b3, sa3, go⟩
      have okI := it1 B3 H (b2.tr b3) sa3.ha.bh i
      by_cases hlt : i < ds.length
      · have hd : ds[i]? = some ds[i] := List.getElem?_eq_getElem hlt
        obtain ⟨hgo, hyl⟩ := okI.1 _ hd
        rw [drop_at hd] at go
        refine .inr ⟨hgo, fun σ' H' => PV (i + 1) (ds.length - (i + 1)) σ' H', fun σ' H' p' => ⟨_, by omega, p'⟩, fun x H3 hy3 => ?_⟩
        obtain ⟨B4, b4, g4, ha4⟩ := hyl x H3 hy3 _ _ _ sa3.ha
        have sa4 : SA c H0 B4 H3 inv ρ2 σ (⟨.frz, ds[i], some x⟩ :: []) fr := ⟨ha4, sa3.l1, sa3.l2⟩
        refine gTg_run C.k sa4 (fun z => nomatch z) go fun ρ' w2 σ' _ sa5 => ?_
        have bb := ((b1.tr b2).tr b3).tr b4
        refine ⟨H0, B4, _, ρ', fr, { P with nx := goFor tg (wpS Ω ci body) P (ds.drop (i + 1)) }, ob, sa5, tb, w2, xs.up bb, fun Δx ex ρ5 w5 B5 H5 σ5 b5 sa6 => ?_, fun d hd v B5 H5 m b5 ha hok => rt d hd v B5 H5 m (bb.tr b5) ha hok⟩
        subst ex
        obtain ⟨B6, b6, sa7⟩ := sa6.les c2
        exact ⟨rfl, hlt, B6, ρ5, ((b3.tr b4).tr b5).tr b6, sa7, w5⟩
      · have e : i = ds.length := by omega
        subst e
        rw [List.drop_length] at go
        exact .inl ⟨okI.2 (Nat.le_refl _), nx inv rfl ρ2 go B3 H σ ((b1.tr b2).tr b3) sa3⟩
    · cases ty9
  · cases h
theorem ss_while {ct : IE} {inv : List M} {body : IS} (hc : All c Ω tc ct) (hb : SSs c Ω ci tc res body) : SS1 c Ω ci tc res (.while ct inv body) := by
  intro X mc W C s h
  unfold matchS1 at h
  split at h
  · obtain ⟨h, h3⟩ := and_of h
    obtain ⟨h1, h2⟩ := and_of h
    refine PS.imp (ps_while C.pw (hc.ste h1 X mc W C _ h2) (hb X mc W C _ h3)) fun D σ H q => ?_
    obtain ⟨H0, B, Δ, ρ, fr, P, o, sa, ty, wp, xs, nx, rt⟩ := q
    simp only [tyS] at ty
    obtain ⟨ms, Δ1, t1, ty⟩ := bind1 ty
    obtain ⟨y, hy, ty⟩ := bindO ty
    cases one_of hy
    obtain ⟨ob, tb, ty9⟩ := bindO ty
    split at ty9
    · rename_i hcc
      obtain ⟨c1, c2⟩ := and_of hcc
      cases ty9
      obtain ⟨I, ⟨m0, i0⟩, step⟩ := wp
      obtain ⟨B2, b2, sa2⟩ := sa.les c1
      refine ⟨fun n σ H => ∃ B3 ρ, Ex B2 B3 ∧ SA c H0 B3 H inv ρ σ [] fr ∧ I n ρ, ⟨m0, B2, ρ, Ex.rfl', sa2, i0⟩, ?_⟩
      rintro n σ H ⟨B3, ρ3, b3, sa3, i3⟩
      refine ⟨H0, B3, inv, ρ3, [], fr, y, Δ1, _, P.ex, sa3, t1, step n ρ3 i3, (xs.up (b2.tr b3)).xc, fun k ρ4 w4 B4 H4 b4 g4 sa4 => ?_⟩
      cases k with
      | false => exact nx Δ1 rfl ρ4 w4 B4 H4 σ ((b2.tr b3).tr b4) sa4
      | true =>
        refine ⟨fun σ' H' => ∃ n', n' < n ∧ ∃ B3 ρ, Ex B2 B3 ∧ SA c H0 B3 H' inv ρ σ' [] fr ∧ I n' ρ, fun σ' H' h => h, ?_⟩
        have bb := (b2.tr b3).tr b4
        refine ⟨H0, B4, Δ1, ρ4, fr, { P with nx := fun ρ2 => ∃ m', m' < n ∧ I m' ρ2 }, ob, sa4, tb, w4, xs.up bb, fun Δx ex ρ5 w5 B5 H5 σ5 b5 sa5 => ?_, fun d hd v B5 H5 m b5 ha hok => rt d hd v B5 H5 m (bb.tr b5) ha hok⟩
        subst ex
        obtain ⟨n', hn, i5⟩ := w5
        obtain ⟨B6, b6, sa6⟩ := sa5.les c2
        exact ⟨n', hn, B6, ρ5, ((b3.tr b4).tr b5).tr b6, sa6, i5⟩
    · cases ty9
  · cases h
theorem ss_ret {ie : IE} (ha : All c Ω tc ie) : SS1 c Ω ci tc res (.ret ie) := by
  intro X mc W C s h
  unfold matchS1 at h
  split at h
  · refine PS.imp (ps_ret (ha.se X mc W C _ h)) fun D σ H q => ?_
    obtain ⟨H0, B, Δ, ρ, fr, P, o, sa, ty, wp, xs, nx, rt⟩ := q
    simp only [tyS] at ty
    obtain ⟨ms, Δ1, t1, ty⟩ := bind1 ty
    obtain ⟨y, hy, ty9⟩ := bindO ty
    cases one_of hy
    split at ty9
    · rename_i hok
      exact ⟨H0, B, Δ, ρ, [], fr, y, Δ1, _, P.ex, sa, t1, wp, xs.xc, fun d ρ1 w1 v B1 H1 b1 g1 sa1 n1 => rt d w1 v B1 H1 y b1 (HA.dropR (es := [⟨y, d, some v⟩]) sa1.ha) hok⟩
    · cases ty9
  · cases h
theorem ss_retN : SS1 c Ω ci tc res .retN := by
  intro X mc W C s h
  unfold matchS1 at h
  split at h
  · refine PS.imp ps_retN fun D σ H q => ?_
    obtain ⟨H0, B, Δ, ρ, fr, P, o, sa, ty, wp, xs, nx, rt⟩ := q
    simp only [tyS] at ty
    split at ty
    · rename_i hok
      have hl : res ≠ .dead := by
        rintro rfl
        cases hok
      exact rt .non wp _ B H res Ex.rfl' (HA.dropR (es := [⟨res, .non, some .non⟩]) (sa.scal (m := res) hl rep_non).ha) hok
    · cases ty
  · cases h
theorem ss_drop {ie : IE} (ha : All c Ω tc ie) : SS1 c Ω ci tc res (.drop ie) := by
  intro X mc W C s h
  unfold matchS1 at h
  split at h
  · obtain ⟨h1, h2⟩ := and_of h
    refine PS.imp (ps_expr (ha.se X mc W C _ h2) (swaps_of h1)) fun D σ H q => ?_
    obtain ⟨H0, B, Δ, ρ, fr, P, o, sa, ty, wp, xs, nx, rt⟩ := q
    simp only [tyS] at ty
    obtain ⟨ms, Δ1, t1, ty⟩ := bind1 ty
    obtain ⟨y, hy, ty9⟩ := bindO ty
    cases one_of hy
    cases ty9
    exact ⟨H0, B, Δ, ρ, [], fr, y, _, _, P.ex, sa, t1, wp, xs.xc, fun d ρ1 w1 v B1 H1 b1 g1 sa1 n1 => nx _ rfl ρ1 w1 B1 H1 σ b1 sa1.drop⟩
  · cases h
theorem owned_kill {mi : M} (h : mi = .deep ∨ mi = .shal) : killM mi = mi ∧ mi ≠ .dead := by rcases h with rfl | rfl <;> exact ⟨rfl, fun z => nomatch z⟩
theorem nobor_slots : ∀ e ∈ slots (Δ.map killM) ρ σ, e.m ≠ .bor := by
  intro e he
  rw [← slots_kill] at he
  obtain ⟨x, _, rfl⟩ := List.mem_map.mp he
  show (match x.m with | .bor => M.dead | m => m) ≠ .bor
  cases x.m <;> exact fun z => nomatch z
/-- a slot's list, ready to be written, with what is put into it -/
theorem SA.ready {mi : M} {y : D} {u : V} (h : SA c H0 B H Δ ρ σ (⟨m, y, some u⟩ :: []) fr) (hi : Δ[i]? = some mi) (hmi : mi = .deep ∨ mi = .shal) (hy : (mi = .deep ∧ m = .deep) ∨ (mi = .shal ∧ (m = .frz ∨ m = .deep))) (hx : ρ.getD i .hole = .lst ds) {v : V} (hv : σ[i]? = some (some v)) :
    ∃ p B', v = .ref p ∧ Ex B B' ∧ HA c H0 B' H (⟨mi.inner, y, some u⟩ :: ⟨mi, .lst ds, some (.ref p)⟩ :: slots ((Δ.set i .dead).map killM) ρ σ) fr ∧ ρ[i]? = some (ρ.getD i .hole) ∧ i < σ.length := by
  obtain ⟨hk, hnd⟩ := owned_kill hmi
  obtain ⟨w, hw, er, hil, sa1⟩ := h.slot hi (by rw [hx]; trivial) hnd
  rw [hv] at hw
  cases hw
  rw [hx] at sa1
  obtain ⟨p, vs, rfl, _, _, _⟩ := sa1.isRefL hnd
  have key : ∀ {B2 : Hp}, SA c H0 B2 H (Δ.set i .dead) ρ σ (⟨mi.inner, y, some u⟩ :: ⟨mi, .lst ds, some (.ref p)⟩ :: []) fr → HA c H0 B2 H (⟨mi.inner, y, some u⟩ :: ⟨mi, .lst ds, some (.ref p)⟩ :: slots ((Δ.set i .dead).map killM) ρ σ) fr := fun {B2} s => by
    have q := s.kill.ha
    have e1 : En.kill ⟨mi.inner, y, some u⟩ = ⟨mi.inner, y, some u⟩ := by rcases hmi with rfl | rfl <;> rfl
    have e2 : En.kill ⟨mi, .lst ds, some (.ref p)⟩ = ⟨mi, .lst ds, some (.ref p)⟩ := by rcases hmi with rfl | rfl <;> rfl
    rw [List.map_cons, List.map_cons, e1, e2] at q
    exact q
  have sa2 := sa1.perm (List.Perm.swap ..)
  rcases hy with ⟨rfl, rfl⟩ | ⟨rfl, rfl | rfl⟩
  · exact ⟨p, B, rfl, Ex.rfl', key sa2, er, hil⟩
  · exact ⟨p, B, rfl, Ex.rfl', key sa2, er, hil⟩
  · obtain ⟨B2, b2, sa3⟩ := sa2.freeze rfl
    exact ⟨p, B2, rfl, b2, key sa3, er, hil⟩
/-- .. and back -/
theorem SA.written {mi : M} {xs : Dat} (h : HA c H0 B H (⟨mi, .lst xs, some (.ref p)⟩ :: slots ((Δ.set i .dead).map killM) ρ σ) fr) (hi : Δ[i]? = some mi) (hmi : mi = .deep ∨ mi = .shal) (hv : σ[i]? = some (some (.ref p))) (l1 : Δ.length = σ.length) (l2 : ρ.length = σ.length) :
    SA c H0 B H (Δ.map killM) (ρ.set i (.lst xs)) σ [] fr := by
  have s : SA c H0 B H ((Δ.set i .dead).map killM) ρ σ (⟨mi, .lst xs, some (.ref p)⟩ :: []) fr := ⟨h, by simpa using l1, l2⟩
  have hil : i < σ.length := (List.getElem?_eq_some_iff.mp hv).1
  have q := s.putIn hil
  have es : σ.set i (some (.ref p)) = σ := by
    obtain ⟨_, e⟩ := List.getElem?_eq_some_iff.mp hv
    conv => lhs; rw [← e]
    exact List.set_getElem_self _
  rw [kill_back hi (owned_kill hmi).1, es] at q
  exact q
theorem listV {K : PySem.W.Frag} (hK : c.K = K) (h : SA c H0 B H Δ ρ σ T fr) (hi : Δ[i]? = some m) (hm : m ≠ .dead) (hx : ρ.getD i .hole = .lst ds) : ∃ p, σ[i]? = some (some (.ref p)) ∧ ∃ vs, SqL K H p vs := by
  obtain ⟨w, hw, er, hil, sa1⟩ := h.slot hi (by rw [hx]; trivial) hm
  rw [hx] at sa1
  obtain ⟨p, vs, rfl, s, _, _⟩ := sa1.isRefL hm
  exact ⟨p, hw, vs, by rw [← hK]; exact s⟩
theorem ss_app {ie : IE} (ha : All c Ω tc ie) : SS1 c Ω ci tc res (.app i ie) := by
  intro X mc W C s h
  unfold matchS1 at h
  split at h
  · rename_i x px f apos y cpos pos
    obtain ⟨h, h5⟩ := and_of h
    obtain ⟨h, h4⟩ := and_of h
    obtain ⟨h, h3⟩ := and_of h
    obtain ⟨h1, h2⟩ := and_of h
    have e1 := of_decide_eq_true h1
    subst e1
    refine PS.imp (ps_expr (pe_bm PySem.F.plainAttrs_list PySem.F.slot_list_append PySem.F.type_list_append mt_append (name_of C h2) (pa_cons (ha.se X mc W C y h4) pa_nil (star_of h3)) (attrBase_of (e := .Name x px) rfl) (by rw [star_of h3]; rfl) h5 (star_of h3) rfl) rfl) fun D σ H q => ?_
    obtain ⟨H0, B, Δ, ρ, fr, P, o, sa, ty, wp, xs, nx, rt⟩ := q
    simp only [tyS] at ty
    obtain ⟨ms, Δ1, t1, ty⟩ := bind1 ty
    obtain ⟨m, hm, ty⟩ := bindO ty
    cases one_of hm
    obtain ⟨x0, hx0, ty⟩ := bindO ty
    obtain ⟨mi, hmi, ty9⟩ := bindO ty
    split at ty9
    · cases ty9
    rename_i nd0
    obtain ⟨ds0, e0, wp⟩ := asL_of wp
    obtain ⟨p, hp, vs0, s0⟩ := listV C.k sa hx0 nd0 e0
    have kk : ((mi = .deep ∧ m = .deep) ∨ (mi = .shal ∧ (m = .frz ∨ m = .deep))) ∧ o = some (Δ1.map killM) := by
      split at ty9
      · split at ty9
        · cases ty9; exact ⟨.inl ⟨rfl, by assumption⟩, rfl⟩
        · cases ty9
      · split at ty9
        · cases ty9; exact ⟨.inr ⟨rfl, by assumption⟩, rfl⟩
        · cases ty9
      · cases ty9
    obtain ⟨hk, ho⟩ := kk
    have hdm : mi = .deep ∨ mi = .shal := hk.elim (fun h => .inl h.1) (fun h => .inr h.1)
    refine ⟨_, hp, .inl ⟨rfl, vs0, s0⟩, H0, B, Δ, ρ, [], fr, m, Δ1, _, P.ex, sa, t1, wp, xs.xc, fun d ρ1 w1 v B1 H1 b1 g1 sa1 n1 => ?_⟩
    obtain ⟨ds, e2, ⟨hlim, w2⟩⟩ := asL_of w1
    obtain ⟨p', B2, ev, b2, ha2, er, hil⟩ := SA.ready sa1 hmi hdm hk e2 hp
    cases ev
    obtain ⟨vs, hH, hl, ha3⟩ := ha2.app hdm nobor_slots
    refine ⟨p, vs, v, rfl, rfl, hH, by rw [hl]; exact Nat.lt_of_lt_of_le hlim (by decide), ?_⟩
    exact nx _ ho _ w2 B2 _ σ (b1.tr b2) (SA.written ha3 hmi hdm hp sa1.l1 sa1.l2)
  · cases h
theorem ss_appT {ie a : IE} (he : All c Ω tc ie) (ha : All c Ω tc a) : SS1 c Ω ci tc res (.appT ie a) := by
  intro X mc W C s h
  unfold matchS1 at h
  split at h
  · rename_i v0 f apos y cpos pos
    obtain ⟨h, h6⟩ := and_of h
    obtain ⟨h, h5⟩ := and_of h
    obtain ⟨h, h4⟩ := and_of h
    obtain ⟨h, h3⟩ := and_of h
    obtain ⟨h1, h2⟩ := and_of h
    have e1 := of_decide_eq_true h1
    subst e1
    refine PS.imp (ps_expr (pe_bm PySem.F.plainAttrs_list PySem.F.slot_list_append PySem.F.type_list_append mt_append (he.se X mc W C v0 h4) (pa_cons (ha.se X mc W C y h5) pa_nil (star_of h3)) (attrBase_of h2) (by rw [star_of h3]; rfl) h6 (star_of h3) rfl) rfl) fun D σ H q => ?_
    obtain ⟨H0, B, Δ, ρ, fr, P, o, sa, ty, wp, xs, nx, rt⟩ := q
    simp only [tyS] at ty
    obtain ⟨ms, Δ1, t1, ty⟩ := bind1 ty
    obtain ⟨mt, Δ2, t2, ty⟩ := bind1 ty
    obtain ⟨m, hm, ty8⟩ := bindO ty
    obtain ⟨n, hn, ty9⟩ := bindO ty8
    cases one_of hm
    cases one_of hn
    split at ty9
    · rename_i hdm
      replace hdm := hdm.1
      cases ty9
      refine ⟨H0, B, Δ, ρ, [], fr, m, Δ1, _, P.ex, sa, t1, wp, xs.xc, fun d ρ1 w1 v B1 H1 b1 g1 sa1 n1 => ?_⟩
      obtain ⟨ds, rfl, w1⟩ := asL_of w1
      obtain ⟨p, vs, rfl, s1, l1, _⟩ := sa1.isRefL n1
      refine ⟨.inl ⟨rfl, vs, by rw [← C.k]; exact s1⟩, H0, B1, Δ1, ρ1, _, fr, n, Δ2, _, P.ex, sa1, t2, w1, (xs.up b1).xc, fun d2 ρ2 w2 v2 B2 H2 b2 g2 sa2 n2 => ?_⟩
      obtain ⟨p', vs2, ev, hH, l2, q⟩ := sa2.drop.openC hdm
      cases ev
      have q2 : SA c H0 B2 H2 Δ2 ρ2 σ (⟨m, .lst (holes vs2.length), some (.ref p)⟩ :: []) fr := SA.drops (T' := ents m.inner ds vs2) (T := [⟨m, .lst (holes vs2.length), some (.ref p)⟩]) q
      have q3 := q2.kill
      have e2 : En.kill ⟨m, .lst (holes vs2.length), some (.ref p)⟩ = ⟨m, .lst (holes vs2.length), some (.ref p)⟩ := by rcases hdm with rfl | rfl <;> rfl
      rw [List.map_cons, e2] at q3
      have q4 := HA.writeC (es := slots (Δ2.map killM) ρ2 σ) q3.ha hdm nobor_slots (vs2 ++ [v2])
      refine ⟨p, vs2, v2, rfl, rfl, hH, by rw [l2]; exact Nat.lt_of_lt_of_le w2.1 (by decide), ?_⟩
      exact nx _ rfl ρ2 w2.2 B2 _ σ (b1.tr b2) ⟨q4.drop, q3.l1, q3.l2⟩
    · cases ty9
  · cases h
theorem ixN_lt {n j : Nat} {k : Int} (h : ixN n k = some j) : j < n := (ixN_seq h).2.1
theorem ss_setix {k ie : IE} (hk0 : All c Ω tc k) (ha : All c Ω tc ie) : SS1 c Ω ci tc res (.setix i k ie) := by
  intro X mc W C s h
  unfold matchS1 at h
  split at h
  · rename_i x px sx sp v0 pos
    obtain ⟨h, h3⟩ := and_of h
    obtain ⟨h, h2⟩ := and_of h
    obtain ⟨h0, h1⟩ := and_of h
    have sw : swapsWithSole [.Subscript (.Name x px) sx sp] v0 pos.line X.env = pure false := by cases v0 <;> rfl
    have st : swappedStores [.Subscript (.Name x px) sx sp] v0 X.env = pure none := by cases v0 <;> rfl
    refine PS.imp (ps_asg (ha.se X mc W C v0 h3) (pg_sub (name_of C h1) (hk0.se X mc W C sx h2) set_list (by intro v; cases sx <;> first | rfl | cases h0)) sw st) fun D σ H q => ?_
    obtain ⟨H0, B, Δ, ρ, fr, P, o, sa, ty, wp, xs, nx, rt⟩ := q
    simp only [tyS] at ty
    obtain ⟨ms, Δ1, t1, ty⟩ := bind1 ty
    obtain ⟨mk, Δ2, t2, ty⟩ := bind1 ty
    obtain ⟨m, hm, ty⟩ := bindO ty
    cases one_of hm
    obtain ⟨n, hn, ty⟩ := bindO ty
    cases one_of hn
    obtain ⟨x0, hx0, ty⟩ := bindO ty
    obtain ⟨mi, hmi, ty9⟩ := bindO ty
    split at ty9
    · cases ty9
    rename_i nd0
    have kk : ((mi = .deep ∧ m = .deep) ∨ (mi = .shal ∧ (m = .frz ∨ m = .deep))) ∧ o = some (Δ2.map killM) := by
      split at ty9
      · split at ty9
        · cases ty9; exact ⟨.inl ⟨rfl, by assumption⟩, rfl⟩
        · cases ty9
      · split at ty9
        · cases ty9; exact ⟨.inr ⟨rfl, by assumption⟩, rfl⟩
        · cases ty9
      · cases ty9
    obtain ⟨hk, ho⟩ := kk
    have hdm : mi = .deep ∨ mi = .shal := hk.elim (fun h => .inl h.1) (fun h => .inr h.1)
    refine ⟨H0, B, Δ, ρ, [], fr, m, Δ1, _, P.ex, sa, t1, wp, xs.xc, fun d ρ1 w1 v B1 H1 b1 g1 sa1 n1 => ?_⟩
    obtain ⟨ds0, e0, w1⟩ := asL_of w1
    obtain ⟨p, hp, _⟩ := listV C.k sa1 hx0 nd0 e0
    refine ⟨_, hp, H0, B1, Δ1, ρ1, _, fr, n, Δ2, _, P.ex, sa1, t2, w1, (xs.up b1).xc, fun d2 ρ2 w2 v2 B2 H2 b2 g2 sa2 n2 => ?_⟩
    obtain ⟨j, rfl, w3⟩ := asI_of w2
    obtain rfl := sa2.isInt n2
    obtain ⟨ds, e2, w4⟩ := asL_of w3
    split at w4
    · rename_i jj hjj
      obtain ⟨p', B3, ev, b3, ha2, er, hil⟩ := SA.ready sa2.drop hmi hdm hk e2 hp
      cases ev
      obtain ⟨vs, hH, hl, ha3⟩ := HA.setL (j := jj) ha2 hdm nobor_slots (ixN_lt hjj)
      refine ⟨p, vs, j, jj, rfl, rfl, hH, by rw [hl]; exact hjj, ?_⟩
      exact nx _ ho _ w4 B3 _ σ ((b1.tr b2).tr b3) (SA.written ha3 hmi hdm hp sa2.l1 sa2.l2)
    · exact w4.elim
  · cases h
theorem ss_raise {Cn : Str} : SS1 c Ω ci tc res (.raise Cn) := by
  intro X mc W C s h
  unfold matchS1 at h
  split at h
  · rename_i x px m j p2 pos pos'
    obtain ⟨h, h3⟩ := and_of h
    obtain ⟨h, h2⟩ := and_of h
    obtain ⟨h0, h1⟩ := and_of h
    have e1 := of_decide_eq_true h1
    subst e1
    obtain ⟨a, Bn, newId, initId, bmB, hc, hm, F, hx, hkp, hs, ht⟩ := C.rz x h3
    obtain ⟨g, db⟩ := glob_of C h2
    refine PS.imp (ps_raise C.calm C.tk (pmk_own F hx hm hkp (raises_own hs ht) g db)) fun D σ H q => ?_
    obtain ⟨H0, B, Δ, ρ, fr, P, o, sa, ty, wp, xs, nx, rt⟩ := q
    simp only [tyS] at ty
    split at ty
    · rename_i hok
      exact xs _ ρ wp Δ _ _ B H σ hok Ex.rfl' ⟨x, [], [], a, [], rfl, h0, rfl, hc, rfl, Reps.nil_iff.mpr ⟨rfl, rfl⟩, rfl⟩ sa
    · cases ty
  · cases h
theorem ss_aug {sub : Bool} {ie : IE} (ha : All c Ω tc ie) : SS1 c Ω ci tc res (.aug i sub ie) := by
  intro X mc W C s h
  unfold matchS1 at h
  split at h
  · rename_i x px op v0 pos
    obtain ⟨h, h3⟩ := and_of h
    obtain ⟨h1, h2⟩ := and_of h
    have e1 := of_decide_eq_true h1
    unfold stoOk at h2
    obtain ⟨h4, h5⟩ := and_of h2
    obtain ⟨s1, s2⟩ := C.sto x h5
    have hi : X.N[i]? = some x := by rw [C.n]; exact of_decide_eq_true h4
    have ip : PIp X op (ipI fun i j => if sub = true then i - j else i + j) := by
      cases sub with
      | true => rw [e1]; exact ip_sub
      | false => rw [e1]; exact ip_add
    refine PS.imp (ps_aug C.nd hi s1 (ha.se X mc W C v0 h3) ip s2) fun D σ H q => ?_
    obtain ⟨H0, B, Δ, ρ, fr, P, o, sa, ty, wp, xs, nx, rt⟩ := q
    simp only [tyS] at ty
    obtain ⟨ms, Δ1, t1, ty⟩ := bind1 ty
    obtain ⟨m, hm, ty9⟩ := bindO ty
    cases one_of hm
    split at ty9
    · rename_i m0 hm0
      split at ty9
      · cases ty9
      · rename_i nd0
        cases ty9
        obtain ⟨a0, ea, wp⟩ := asI_of wp
        obtain ⟨w, hw, er, hil, sa0⟩ := sa.slot hm0 (by rw [ea]; trivial) nd0
        rw [ea] at sa0
        obtain rfl := sa0.isInt nd0
        refine ⟨_, hw, H0, B, Δ, ρ, [], fr, m, Δ1, _, P.ex, sa, t1, wp, xs.xc, fun d ρ1 w1 v B1 H1 b1 g1 sa1 n1 => ?_⟩
        obtain ⟨b0, rfl, w2⟩ := asI_of w1
        obtain rfl := sa1.isInt n1
        refine ⟨_, _, rfl, rfl, nx _ rfl _ w2 B1 H1 _ b1 ?_⟩
        exact SA.putAny (m := .deep) (sa1.drop.scal (fun z => nomatch z) rep_int)
    · cases ty9
  · cases h
theorem ss_try {j : Nat} {Δx : List M} {body : IS} (hb : SSs c Ω ci ⟨tc.sg, some Δx⟩ res body) : SS1 c Ω ci tc res (.tryx i j Δx body) := by
  intro X mc W C s h
  unfold matchS1 at h
  split at h
  · rename_i bd x px n y py n' pe sp p5 p6
    obtain ⟨h, h10⟩ := and_of h
    obtain ⟨h, h9⟩ := and_of h
    obtain ⟨h, h8⟩ := and_of h
    obtain ⟨h, h7⟩ := and_of h
    obtain ⟨h, h6⟩ := and_of h
    obtain ⟨h, h5⟩ := and_of h
    obtain ⟨h, h4⟩ := and_of h
    obtain ⟨h, h3⟩ := and_of h
    obtain ⟨h1, h2⟩ := and_of h
    have e3 := of_decide_eq_true h3
    subst e3
    have e7 := of_decide_eq_true h7
    subst e7
    obtain ⟨g, db⟩ := glob_of C h4
    obtain ⟨d1, d2, d3⟩ := C.df h1
    obtain ⟨F, f1, f2⟩ := C.tr h2
    unfold stoOk at h9
    obtain ⟨h11, h12⟩ := and_of h9
    obtain ⟨s1, s2⟩ := C.sto y h12
    have hi : X.N[i]? = some n' := by rw [C.n]; exact of_decide_eq_true h5
    have hj : X.N[j]? = some y := by rw [C.n]; exact of_decide_eq_true h11
    have hloc : X.env.scope.names.lookup n' = some .local := by rw [C.s]; exact of_decide_eq_true h6
    have hpl : plainName n' = true := by
      unfold nameOk at h8
      exact (and_of h8).2
    refine PS.imp (ps_try_keep (tb := fun W' => tS c Ω ci ⟨tc.sg, some Δx⟩ W' res body) (ts := tAsg (tVar i) (gName j)) d1 d2 d3 C.nd hi hloc ⟨g, db, .inl f1⟩ (fun W' pn xe tk pw => ?_) (fun a pn => ?_)) fun D σ H q => ?_
    · exact hb (X.tr pn xe) mc W' { C with tk := tk, pw := pw } bd h10
    · exact pss_one (ps_set (X := X.suite a pn) C.nd hj s1 (pe_var (X := X.suite a pn) hi (.inl hloc) (plainName_of hpl).1 (plainName_of hpl).2) rfl s2)
    obtain ⟨H0, B, Δ, ρ, fr, P, o, sa, ty, wp, xs, nx, rt⟩ := q
    simp only [tyS] at ty
    obtain ⟨ob, tb, ty9⟩ := bindO ty
    split at ty9
    · rename_i hix
      obtain ⟨i1, i2, i3⟩ := hix
      have lead : ∀ Δy, (ob = some Δy ∨ Δy = (Δx.set i .dead).set j .frz) → ∃ Δ2, o = some Δ2 ∧ leO (some Δy) Δ2 = true := by
        intro Δy hy
        split at ty9
        · cases ty9
        · split at ty9
          · rename_i hle
            obtain ⟨l1, l2⟩ := and_of hle
            cases ty9
            refine ⟨_, rfl, ?_⟩
            rcases hy with hy | hy
            · rw [hy] at l1; exact l1
            · rw [hy]; exact l2
          · cases ty9
      refine ⟨H0, B, Δ, ρ, fr, { P with ex := fun x ρ1 => P.nx ((ρ1.set i .hole).set j x) }, ob, sa, tb, wp, ?_, fun Δy ey ρ2 w2 B2 H2 σ2 b2 sa2 => ?_, fun d hd v B2 H2 m b2 ha hok => rt d hd v B2 H2 m b2 ha hok⟩
      · rintro x ρ' hx Δx' cls dx B' H' σ' hk b ⟨C', ns, ds, a, fs, rfl, hexc, rfl, hcls, en, r, xc⟩ sa2
        have ek : Δx = Δx' := of_decide_eq_true hk
        subst ek
        refine ⟨a, rfl, f2 C' a hcls hexc, fun p np => ?_⟩
        have il : i < σ'.length := by rw [← sa2.l1]; exact i1
        refine ⟨.ref p, by rw [List.getElem?_set_self il], ?_⟩
        obtain ⟨b3, ha3⟩ := HA.newX (p := p) sa2.ha np hcls en r xc
        have sa3 : SA c H0 (upd B' p (excO a p dx)) (upd H' p (excO a p dx)) Δx ρ' σ' (⟨.frz, .exc C' ns ds, some (.ref p)⟩ :: []) fr := ⟨ha3, sa2.l1, sa2.l2⟩
        have sa4 : SA c H0 (upd B' p (excO a p dx)) (upd H' p (excO a p dx)) Δx ρ' σ' (⟨.dead, .hole, none⟩ :: ⟨.frz, .exc C' ns ds, some (.ref p)⟩ :: []) fr := ⟨HA.addDead sa3.ha .hole none, sa2.l1, sa2.l2⟩
        have sa5 := (sa4.putAny (i := i)).putAny (i := j)
        obtain ⟨Δ2, eo, hle⟩ := lead _ (.inr rfl)
        obtain ⟨B6, b6, sa6⟩ := sa5.les hle
        have es : ((σ'.set i (some (V.ref p))).set j (some (V.ref p))).set i none = (σ'.set i none).set j (some (V.ref p)) := by
          rw [List.set_comm _ _ (Ne.symm i3), List.set_set]
        show D.nx _ _
        rw [es]
        exact nx Δ2 eo _ hx B6 _ _ ((b.tr b3).tr b6) sa6
      · obtain ⟨Δ2, eo, hle⟩ := lead _ (.inl ey)
        obtain ⟨B3, b3, sa3⟩ := sa2.les hle
        exact nx Δ2 eo ρ2 w2 B3 H2 σ2 (b2.tr b3) sa3
    · cases ty9
  · cases h
end
end FM

set_option Elab.async false
set_option linter.all false
set_option maxRecDepth 100000
namespace FM
open PySem L2
section
variable {c : Cfg} {Ω : Str → FSem} {tc : SigT} {H0 B B' Bs H H' : Hp} {Δ Δ' : List M} {ρ ρ' : Dat} {σ σ' : List (Option V)} {T T' fr es es' : List En} {e : En} {m m' : M} {d : D} {ds ds' : Dat} {v : V} {vs us : List V} {ov : Option V} {i : Nat} {p q : Addr} {ci : Str → Option (List Str)} {res : M}
/-- an owned cell written -/
theorem HA.write1 {e' : En} {o : HO} (h : HA c H0 B H (e :: es) fr) (he : ∀ L, EnR c B H e L → L = [p]) (new : EnR c B (upd H p o) e' [p]) (nb : ∀ e ∈ es, e.m ≠ .bor) : HA c H0 B (upd H p o) (e' :: es) fr := by
  obtain ⟨_, L2, ⟨L3, L4, rfl, h1, h3⟩, h2, nd, f0, fb, ow⟩ := h.own
  obtain rfl := he L3 h1
  have f0p : H0 p = none := f0 p (List.mem_append_left _ List.mem_cons_self)
  have fbp : B p = none := fb p (List.mem_append_left _ (List.mem_append_left _ List.mem_cons_self))
  rw [List.append_assoc] at nd
  have nd' : (p :: (L4 ++ L2)).Nodup := nd
  have npR : ∀ x ∈ L4 ++ L2, x ≠ p := fun x hx z => (List.nodup_cons.mp nd').1 (by rw [← z]; exact hx)
  have st : ∀ x ∈ L4 ++ L2, ∀ u, H x = some u → upd H p o x = some u := fun x hx u e => by rw [upd_ne (npR x hx)]; exact e
  refine ⟨⟨p :: L4, L2, ⟨[p], L4, rfl, new, h3.mono Ex.rfl' (fun x hx => st x (List.mem_append_left _ hx)) (.inr nb)⟩, h2.mono Ex.rfl' (fun x hx => st x (List.mem_append_right _ hx)) (.inr h.nb), nd', fun x hx => ?_, fun x hx => ?_⟩, fun a u e => ?_, fun a u e => ?_, h.nb⟩
  · rcases List.mem_cons.mp hx with rfl | hx
    · exact f0p
    · exact f0 x (List.mem_append_right _ hx)
  · rcases List.mem_cons.mp hx with rfl | hx
    · exact fbp
    · refine fb x ?_
      rcases List.mem_append.mp hx with hx | hx
      · exact List.mem_append_left _ (List.mem_append_right _ hx)
      · exact List.mem_append_right _ hx
  · by_cases z : a = p
    · subst z; rw [fbp] at e; cases e
    · rw [upd_ne z]; exact h.bh a u e
  · by_cases z : a = p
    · subst z; rw [f0p] at e; cases e
    · rw [upd_ne z]; exact h.h0 a u e
theorem HA.writeD {kvs kvs' : List (List Int × Int)} (h : HA c H0 B H (⟨.deep, .dct kvs, some (.ref p)⟩ :: es) fr) (nb : ∀ e ∈ es, e.m ≠ .bor) : HA c H0 B (upd H p (dctV kvs')) (⟨.deep, .dct kvs', some (.ref p)⟩ :: es) fr := by
  refine h.write1 (fun L r => ?_) ((EnR.some_iff (m := .deep) (fun z => nomatch z)).mpr ?_) nb
  · have r := (EnR.some_iff (m := .deep) (fun z => nomatch z)).mp r
    unfold Rep at r
    obtain ⟨p', e, q⟩ := r
    cases e
    exact q.1
  · unfold Rep
    exact ⟨p, rfl, rfl, upd_same⟩
theorem kill_eq : ∀ {T : List En}, (∀ e ∈ T, e.m ≠ .bor) → T.map En.kill = T
  | [], _ => rfl
  | e :: T, h => by
    rw [List.map_cons, kill_eq fun x hx => h x (List.mem_cons_of_mem _ hx)]
    congr 1
    have := h e List.mem_cons_self
    obtain ⟨m, d, v⟩ := e
    cases m <;> first | rfl | exact absurd rfl this
/-- slot i taken out, looks ended -/
theorem SA.grip {mi : M} (h : SA c H0 B H Δ ρ σ T fr) (hT : ∀ e ∈ T, e.m ≠ .bor) (hi : Δ[i]? = some mi) (hb : mi ≠ .bor) (hnd : mi ≠ .dead) (hl : (ρ.getD i .hole).live) :
    ∃ v, σ[i]? = some (some v) ∧ HA c H0 B H (⟨mi, ρ.getD i .hole, some v⟩ :: (T ++ slots ((Δ.set i .dead).map killM) ρ σ)) fr := by
  obtain ⟨w, hw, er, hil, sa1⟩ := h.slot hi hl hnd
  refine ⟨w, hw, ?_⟩
  have q := sa1.kill.ha
  rw [List.map_cons, kill_eq hT] at q
  have e2 : En.kill ⟨mi, ρ.getD i .hole, some w⟩ = ⟨mi, ρ.getD i .hole, some w⟩ := by cases mi <;> first | rfl | exact absurd rfl hb
  rw [e2] at q
  exact q
theorem SA.ungrip {mi : M} {x : D} (h : HA c H0 B H (⟨mi, x, some v⟩ :: (T ++ slots ((Δ.set i .dead).map killM) ρ σ)) fr) (hi : Δ[i]? = some mi) (hb : mi ≠ .bor) (hv : σ[i]? = some (some v)) (l1 : Δ.length = σ.length) (l2 : ρ.length = σ.length) :
    SA c H0 B H (Δ.map killM) (ρ.set i x) σ T fr := by
  have s : SA c H0 B H ((Δ.set i .dead).map killM) ρ σ (⟨mi, x, some v⟩ :: T) fr := ⟨h, by simpa using l1, l2⟩
  have hil : i < σ.length := (List.getElem?_eq_some_iff.mp hv).1
  have q := s.putIn hil
  have es : σ.set i (some v) = σ := by
    obtain ⟨_, e⟩ := List.getElem?_eq_some_iff.mp hv
    conv => lhs; rw [← e]
    exact List.set_getElem_self _
  have hk : killM mi = mi := by cases mi <;> first | rfl | exact absurd rfl hb
  rw [kill_back hi hk, es] at q
  exact q
theorem nobor_app {T : List En} (hT : ∀ e ∈ T, e.m ≠ .bor) : ∀ e ∈ T ++ slots (Δ.map killM) ρ σ, e.m ≠ .bor := fun e he => by
  rcases List.mem_append.mp he with h | h
  · exact hT e h
  · exact nobor_slots e h
theorem noT0 : ∀ e ∈ ([] : List En), e.m ≠ .bor := fun _ z => nomatch z
theorem ss_dput {k ie : IE} (hk0 : All c Ω tc k) (ha : All c Ω tc ie) : SS1 c Ω ci tc res (.dput i k ie) := by
  intro X mc W C s h
  unfold matchS1 at h
  split at h
  · rename_i x px sx sp v0 pos
    obtain ⟨h, h4⟩ := and_of h
    obtain ⟨h, h3⟩ := and_of h
    obtain ⟨h, h2⟩ := and_of h
    obtain ⟨h0, h1⟩ := and_of h
    refine PS.imp (ps_dput (hu1 C) (name_of C h1) (hk0.se X mc W C sx h2) (ha.se X mc W C v0 h3) (swaps_of h4)) fun D σ H q => ?_
    obtain ⟨H0, B, Δ, ρ, fr, P, o, sa, ty, wp, xs, nx, rt⟩ := q
    simp only [tyS] at ty
    obtain ⟨ms, Δ1, t1, ty⟩ := bind1 ty
    obtain ⟨mk, Δ2, t2, ty⟩ := bind1 ty
    obtain ⟨m, hm, ty⟩ := bindO ty
    cases one_of hm
    obtain ⟨n, hn, ty⟩ := bindO ty
    cases one_of hn
    obtain ⟨x0, hx0, ty⟩ := bindO ty
    obtain ⟨mi, hmi, ty9⟩ := bindO ty
    obtain ⟨nd0, rfl, ho⟩ : x0 ≠ .dead ∧ mi = .deep ∧ o = some (Δ2.map killM) := by
      split at ty9
      · rename_i hx
        exact ⟨hx.1, hx.2, (Option.some.inj ty9).symm⟩
      · cases ty9
    refine ⟨H0, B, Δ, ρ, [], fr, m, Δ1, _, P.ex, sa, t1, wp, xs.xc, fun d ρ1 w1 v B1 H1 b1 g1 sa1 n1 => ?_⟩
    obtain ⟨ds0, e0, w1'⟩ := asD_of w1
    obtain ⟨w, hw, _, _, _⟩ := sa1.slot hx0 (by rw [e0]; trivial) nd0
    refine ⟨w, hw, H0, B1, Δ1, ρ1, _, fr, n, Δ2, _, P.ex, sa1, t2, w1', (xs.up b1).xc, fun d2 ρ2 w2 v2 B2 H2 b2 g2 sa2 n2 => ?_⟩
    obtain ⟨kvs, e2, w3⟩ := asD_of w2
    obtain ⟨ns, rfl, w4⟩ := keyD_of w3
    obtain ⟨j, rfl, hlim, w5⟩ := asI_of w4
    obtain ⟨qk, rfl, hqk⟩ := sa2.isTrk n2
    obtain rfl := sa2.drop.isInt n1
    obtain ⟨w', hw', ha2⟩ := SA.grip (sa2.drop.drop) noT0 hmi (fun z => nomatch z) (fun z => nomatch z) (by rw [e2]; trivial)
    rw [hw] at hw'
    cases hw'
    rw [e2] at ha2
    obtain ⟨p, rfl, hp⟩ : ∃ p, w = .ref p ∧ H2 p = some (.dT (dctK kvs)) := by
      obtain ⟨w', L, e, r⟩ := ha2.rep (fun z => nomatch z) (fun z => nomatch z)
      cases e
      unfold Rep at r
      obtain ⟨p, rfl, q⟩ := r
      exact ⟨p, rfl, q.2⟩
    have ha3 := HA.writeD (kvs' := putD kvs ns j) ha2 (nobor_app noT0)
    refine ⟨p, _, rfl, .inr ⟨_, keyOf ns, qk, hp, rfl, by rw [keyOf_kV]; exact hqk, ?_, rfl⟩, ?_⟩
    · unfold dctK
      rw [List.length_map]
      exact Nat.lt_of_lt_of_le hlim (by decide)
    · rw [putK_dct]
      exact nx _ ho _ w5 B2 _ σ (b1.tr b2) (SA.ungrip ha3 hmi (fun z => nomatch z) hw sa2.l1 sa2.l2)
  · cases h
/-! ### pop -/
theorem ents_erase {m : M} : ∀ {ds : Dat} {vs : List V} {j : Nat}, vs.length = ds.length → ents m (ds.eraseIdx j) (vs.eraseIdx j) = (ents m ds vs).eraseIdx j
  | [], [], _, _ => rfl
  | [], _ :: _, _, h => by simp at h
  | _ :: _, [], _, h => by simp at h
  | _ :: _, _ :: _, 0, _ => rfl
  | x :: ds, y :: vs, j + 1, h => by
    show ⟨m, x, some y⟩ :: ents m (ds.eraseIdx j) (vs.eraseIdx j) = ⟨m, x, some y⟩ :: (ents m ds vs).eraseIdx j
    rw [ents_erase (by simpa using h)]
theorem cons_erase {α : Type} : ∀ {l : List α} {j : Nat} {a : α}, l[j]? = some a → (a :: l.eraseIdx j).Perm l
  | [], _, _, h => by simp at h
  | x :: l, 0, a, h => by
    simp at h
    subst h; exact List.Perm.refl _
  | x :: l, j + 1, a, h => by
    show (a :: x :: l.eraseIdx j).Perm (x :: l)
    exact (List.Perm.swap ..).trans ((cons_erase (by simpa using h)).cons x)
theorem ents_at {m : M} : ∀ {ds : Dat} {vs : List V} {j : Nat} {d : D} {v : V}, vs[j]? = some v → ds[j]? = some d → (ents m ds vs)[j]? = some ⟨m, d, some v⟩
  | [], _, _, _, _, _, h => by simp at h
  | _ :: _, [], _, _, _, h, _ => by simp at h
  | x :: ds, y :: vs, 0, d, v, h1, h2 => by
    simp at h1 h2
    subst h1 h2; rfl
  | x :: ds, y :: vs, j + 1, d, v, h1, h2 => by
    show (ents m ds vs)[j]? = _
    exact ents_at (by simpa using h1) (by simpa using h2)
theorem HA.popL {j : Nat} (h : HA c H0 B H (⟨m, .lst ds, some (.ref p)⟩ :: es) fr) (hm : m = .deep ∨ m = .shal) (nb : ∀ e ∈ es, e.m ≠ .bor) (hd : ds[j]? = some d) :
    ∃ vs v, H p = some (.lst vs) ∧ vs.length = ds.length ∧ vs[j]? = some v ∧ HA c H0 B (upd H p (.lst (vs.eraseIdx j))) (⟨m.inner, d, some v⟩ :: ⟨m, .lst (ds.eraseIdx j), some (.ref p)⟩ :: es) fr := by
  obtain ⟨p', vs, e, hp, hl, q⟩ := h.openC hm
  cases e
  have hj : j < ds.length := (List.getElem?_eq_some_iff.mp hd).1
  have hv : vs[j]? = some vs[j] := List.getElem?_eq_getElem (by omega)
  refine ⟨vs, vs[j], hp, hl, hv, ?_⟩
  have ni : m.inner ≠ .bor := by rcases hm with rfl | rfl <;> exact fun z => nomatch z
  have q2 : HA c H0 B H (⟨m, .lst (holes vs.length), some (.ref p)⟩ :: (ents m.inner ds vs ++ es)) fr := q.perm List.perm_middle
  have nb2 : ∀ e ∈ ents m.inner ds vs ++ es, e.m ≠ .bor := by
    intro e he
    rcases List.mem_append.mp he with z | z
    · rw [ents_m z]; exact ni
    · exact nb e z
  have q3 := q2.writeC hm nb2 (vs.eraseIdx j)
  have pe : (ents m.inner ds vs).Perm (⟨m.inner, d, some vs[j]⟩ :: ents m.inner (ds.eraseIdx j) (vs.eraseIdx j)) := by
    rw [ents_erase hl]
    have ha := ents_at (m := m.inner) hv hd
    exact (cons_erase ha).symm
  have q4 : HA c H0 B (upd H p (.lst (vs.eraseIdx j))) (ents m.inner (ds.eraseIdx j) (vs.eraseIdx j) ++ ⟨m, .lst (holes (vs.eraseIdx j).length), some (.ref p)⟩ :: (⟨m.inner, d, some vs[j]⟩ :: es)) fr := by
    refine q3.perm ?_
    refine (List.Perm.cons _ (pe.append_right es)).trans ?_
    refine (List.Perm.swap ..).trans ?_
    refine (List.Perm.cons _ List.perm_middle.symm).trans ?_
    exact (List.perm_middle.symm).trans (List.Perm.append_left _ (List.Perm.swap ..))
  exact (q4.closeC hm (by rw [List.length_eraseIdx, List.length_eraseIdx, hl]) upd_same).perm (List.Perm.swap ..)
/-- what d.pop(k), d.pop() is asked -/
def tPopE (c : Cfg) (Ω : Str → FSem) (tc : SigT) (W : WX) (j : Nat) (k : IE) : TE := fun σ H Q => ∃ H0 B Δ ρ fr mk Δ1 mj, ∃ (R : D → Dat → Dat → Prop) (Xd : XPost), SA c H0 B H Δ ρ σ [] fr ∧ tyE tc k Δ = some (mk, Δ1) ∧ (isNil k = false → mk.length = 1) ∧ (∃ y0, Δ[j]? = some y0 ∧ y0 ≠ .dead) ∧
  (∃ ds, ρ.getD j .hole = .lst ds) ∧ Δ1[j]? = some mj ∧ (mj = .deep ∨ mj = .shal) ∧ wpE Ω k ρ (fun y ρ1 => asO (isNil k) y fun k => asL (ρ1.getD j .hole) fun xs => popD xs k fun d ys => R d ys ρ1) Xd ∧ XC c tc W Xd H0 B H σ [] fr ∧
  ∀ d ys ρ1, R d ys ρ1 → ∀ v B' H', Ex B B' → SA c H0 B' H' (Δ1.map killM) (ρ1.set j (.lst ys)) σ [⟨mj.inner, d, some v⟩] fr → Q v H'
theorem ixN_eq {n : Nat} {j : Int} {k : Nat} (h : ixN n j = some k) : seqIndex? j n = some k := (ixN_seq h).1
theorem pop_fin {mj : M} {j n : Nat} {xs : Dat} (sa : SA c H0 B H Δ ρ σ [] fr) (hmj : Δ[j]? = some mj) (hm : mj = .deep ∨ mj = .shal) (ex : ρ.getD j .hole = .lst xs) (hd : xs[n]? = some d) : ∃ p vs v, σ[j]? = some (some (.ref p)) ∧ H p = some (.lst vs) ∧ vs.length = xs.length ∧ vs[n]? = some v ∧
    SA c H0 B (upd H p (.lst (vs.eraseIdx n))) (Δ.map killM) (ρ.set j (.lst (xs.eraseIdx n))) σ [⟨mj.inner, d, some v⟩] fr := by
  have hb : mj ≠ .bor := by rcases hm with rfl | rfl <;> exact fun z => nomatch z
  have hnd : mj ≠ .dead := by rcases hm with rfl | rfl <;> exact fun z => nomatch z
  obtain ⟨w, hw, ha⟩ := SA.grip sa noT0 hmj hb hnd (by rw [ex]; trivial)
  rw [ex] at ha
  obtain ⟨p, vs0, e, _, _⟩ := ha.openC hm
  cases e
  obtain ⟨vs, v, hp, hl, hv, ha2⟩ := ha.popL hm (nobor_app noT0) hd
  refine ⟨p, vs, v, hw, hp, hl, hv, ?_⟩
  exact SA.ungrip (T := [⟨mj.inner, d, some v⟩]) (ha2.perm (List.Perm.swap ..)) hmj hb hw sa.l1 sa.l2
theorem pe_popE {X : Cx} {mc : MC} {W : WX} (C : Ctx X c Ω tc mc W) {j : Nat} {k : IE} {y : Str} {py apos cpos : Pos} {as : List Expr} (hk : All c Ω tc k) (hy : nameOk mc j y = true) (hp : matchP mc k as = true) (hl : (apos.endLine == cpos.line) = true) :
    PE X (.Call (.Attribute (.Name y py) "pop" apos) as [] cpos) (tPopE c Ω tc W j k) := by
  unfold matchP at hp
  split at hp
  · refine PE.imp (pe_bm0 PySem.F.plainAttrs_list PySem.F.slot_list_pop PySem.F.type_list_pop mt_pop (name_of C hy) (attrBase_of (e := .Name y py) rfl) hl) fun σ H Q q => ?_
    obtain ⟨H0, B, Δ, ρ, fr, mk, Δ1, mj, R, Xd, sa, ty, _, ⟨y0, hy0, ndy⟩, ⟨ds, eds⟩, hmj, hm, wp, xc, kk⟩ := q
    have ek : k = .nil := by
      cases k <;> first | rfl | cases hp
    subst ek
    cases ty
    obtain ⟨xs, ex, w1⟩ := asL_of (show asL (ρ.getD j .hole) _ from wp)
    obtain ⟨d, hd, w2⟩ := optG_of w1
    obtain ⟨p, vs, v, hw, hH, hlen, hv, sa2⟩ := pop_fin sa hmj hm ex hd
    refine ⟨.ref p, hw, .inl ⟨rfl, vs, .inl (.inl hH)⟩, p, vs, v, rfl, rfl, hH, by rw [hlen]; exact hv, ?_⟩
    have e1 : vs.dropLast = vs.eraseIdx (xs.length - 1) := by rw [← hlen, List.eraseIdx_length_sub_one]
    have e2 : xs.dropLast = xs.eraseIdx (xs.length - 1) := by rw [List.eraseIdx_length_sub_one]
    rw [e1]
    rw [e2] at w2
    exact kk d _ ρ w2 v B _ Ex.rfl' sa2
  · rename_i x
    obtain ⟨hp, h3⟩ := and_of hp
    obtain ⟨h1, h2⟩ := and_of hp
    have hn : isNil k = false := by simpa using h2
    refine PE.imp (pe_bm PySem.F.plainAttrs_list PySem.F.slot_list_pop PySem.F.type_list_pop mt_popAt (name_of C hy) (pa_cons (hk.se X mc W C x h3) pa_nil (star_of h1)) (attrBase_of (e := .Name y py) rfl) (by rw [star_of h1]; rfl) hl (star_of h1) rfl) fun σ H Q q => ?_
    obtain ⟨H0, B, Δ, ρ, fr, mk, Δ1, mj, R, Xd, sa, ty, hone, ⟨y0, hy0, ndy⟩, ⟨ds, eds⟩, hmj, hm, wp, xc, kk⟩ := q
    have l1 := hone hn
    obtain ⟨m1, rfl⟩ : ∃ m1, mk = [m1] := by
      cases mk with
      | nil => simp at l1
      | cons a as =>
        cases as with
        | nil => exact ⟨a, rfl⟩
        | cons _ _ => simp at l1
    obtain ⟨p0, hp0, vs0, s0⟩ := listV C.k sa hy0 ndy eds
    refine ⟨_, hp0, .inl ⟨rfl, vs0, s0⟩, H0, B, Δ, ρ, [], fr, m1, Δ1, _, Xd, sa, ty, wp, xc, fun d1 ρ1 w1 v1 B1 H1 b1 g1 sa1 n1 => ?_⟩
    rw [hn] at w1
    obtain ⟨jj, rfl, w2⟩ : ∃ jj, d1 = .int jj ∧ asL (ρ1.getD j .hole) fun xs => popD xs (some jj) fun d ys => R d ys ρ1 := by
      unfold asO at w1
      rw [if_neg Bool.false_ne_true] at w1
      split at w1
      · exact ⟨_, rfl, w1⟩
      · exact w1.elim
    obtain rfl := sa1.isInt n1
    obtain ⟨xs, ex, hsm, w3⟩ := asL_of w2
    obtain ⟨n, hn1, w4⟩ := optG_of w3
    obtain ⟨d, hd, w5⟩ := optG_of w4
    obtain ⟨p, vs, v, hw, hH, hlen, hv, sa2⟩ := pop_fin sa1.drop hmj hm ex hd
    rw [hp0] at hw
    cases hw
    refine ⟨p0, vs, jj, n, v, rfl, rfl, hH, ?_, ?_, by rw [hlen]; exact ixN_eq hn1, hv, kk d _ ρ1 w5 v B1 _ b1 sa2⟩
    · have := hsm.1
      omega
    · have := hsm.2
      omega
  · cases hp
theorem pop_ty {j : Nat} {k : IE} {mk : List M} {y0 y : M} (h : ¬((isNil k = false ∧ mk.length ≠ 1) ∨ y0 = .dead)) : (isNil k = false → mk.length = 1) ∧ y0 ≠ .dead := by
  refine ⟨fun hn => ?_, fun z => h (.inr z)⟩
  by_cases hl : mk.length = 1
  · exact hl
  · exact absurd (.inl ⟨hn, hl⟩) h
theorem ss_popS {j : Nat} {k : IE} (hk : All c Ω tc k) : SS1 c Ω ci tc res (.popS j k) := by
  intro X mc W C s h
  unfold matchS1 at h
  split at h
  · rename_i y py g apos2 as cpos2 pos
    obtain ⟨h, h4⟩ := and_of h
    obtain ⟨h, h3⟩ := and_of h
    obtain ⟨h1, h2⟩ := and_of h
    have e1 := of_decide_eq_true h1
    subst e1
    refine PS.imp (ps_expr (pe_popE C hk h2 h3 h4) rfl) fun D σ H q => ?_
    obtain ⟨H0, B, Δ, ρ, fr, P, o, sa, ty, wp, xs, nx, rt⟩ := q
    simp only [tyS] at ty
    obtain ⟨mk, Δ1, t1, ty⟩ := bind1 ty
    obtain ⟨y0, hy0, ty⟩ := bindO ty
    obtain ⟨mj, hmj, ty9⟩ := bindO ty
    split at ty9
    · cases ty9
    rename_i hok
    obtain ⟨o1, o2⟩ := pop_ty (j := 0) (y := .dead) hok
    obtain ⟨hm, ho⟩ : (mj = .deep ∨ mj = .shal) ∧ o = some (Δ1.map killM) := by
      split at ty9
      · cases ty9; exact ⟨.inl rfl, rfl⟩
      · cases ty9; exact ⟨.inr rfl, rfl⟩
      · cases ty9
    obtain ⟨ds, eds, wp⟩ := asL_of wp
    refine ⟨H0, B, Δ, ρ, fr, mk, Δ1, mj, _, P.ex, sa, t1, o1, ⟨y0, hy0, o2⟩, ⟨ds, eds⟩, hmj, hm, wp, xs.xc, fun d ys ρ1 w v B' H' b sa' => ?_⟩
    exact nx _ ho _ w B' H' σ b sa'.drop
  · cases h
theorem ss_setPop {j : Nat} {k : IE} (hk : All c Ω tc k) : SS1 c Ω ci tc res (.setPop i j k) := by
  intro X mc W C s h
  unfold matchS1 at h
  split at h
  · rename_i x px y py g apos2 as cpos2 pos
    obtain ⟨h, h5⟩ := and_of h
    obtain ⟨h, h4⟩ := and_of h
    obtain ⟨h, h3⟩ := and_of h
    obtain ⟨h1, h2⟩ := and_of h
    have e1 := of_decide_eq_true h1
    subst e1
    unfold stoOk at h2
    obtain ⟨h6, h7⟩ := and_of h2
    obtain ⟨s1, s2⟩ := C.sto x h7
    have hi : X.N[i]? = some x := by rw [C.n]; exact of_decide_eq_true h6
    refine PS.imp (ps_set C.nd hi s1 (pe_popE C hk h3 h4 h5) rfl s2) fun D σ H q => ?_
    obtain ⟨H0, B, Δ, ρ, fr, P, o, sa, ty, wp, xs, nx, rt⟩ := q
    simp only [tyS] at ty
    obtain ⟨mk, Δ1, t1, ty⟩ := bind1 ty
    obtain ⟨y0, hy0, ty⟩ := bindO ty
    obtain ⟨mj, hmj, ty9⟩ := bindO ty
    split at ty9
    · cases ty9
    rename_i hok
    obtain ⟨o1, o2⟩ := pop_ty (j := 0) (y := .dead) (k := k) (mk := mk) (y0 := y0) (fun z => hok (z.elim .inl fun z => .inr (.inl z)))
    obtain ⟨hm, ho⟩ : (mj = .deep ∨ mj = .shal) ∧ o = some ((Δ1.map killM).set i mj.inner) := by
      split at ty9
      · cases ty9; exact ⟨.inl rfl, rfl⟩
      · cases ty9; exact ⟨.inr rfl, rfl⟩
      · cases ty9
    obtain ⟨ds, eds, wp⟩ := asL_of wp
    refine ⟨H0, B, Δ, ρ, fr, mk, Δ1, mj, _, P.ex, sa, t1, o1, ⟨y0, hy0, o2⟩, ⟨ds, eds⟩, hmj, hm, wp, xs.xc, fun d ys ρ1 w v B' H' b sa' => ?_⟩
    exact nx _ ho _ w B' H' _ b sa'.putAny
  · cases h
theorem ss_appPop {j : Nat} {k : IE} (hk : All c Ω tc k) : SS1 c Ω ci tc res (.appPop i j k) := by
  intro X mc W C s h
  unfold matchS1 at h
  split at h
  · rename_i x px f apos y py g apos2 as cpos2 cpos pos
    obtain ⟨h, h7⟩ := and_of h
    obtain ⟨h, h6⟩ := and_of h
    obtain ⟨h, h5⟩ := and_of h
    obtain ⟨h, h4⟩ := and_of h
    obtain ⟨h, h3⟩ := and_of h
    obtain ⟨h1, h2⟩ := and_of h
    have e1 := of_decide_eq_true h1
    subst e1
    have e2 := of_decide_eq_true h2
    subst e2
    refine PS.imp (ps_expr (pe_bm PySem.F.plainAttrs_list PySem.F.slot_list_append PySem.F.type_list_append mt_append (name_of C h3) (pa_cons (pe_popE C hk h4 h5 h7) pa_nil rfl) (attrBase_of (e := .Name x px) rfl) rfl h6 rfl rfl) rfl) fun D σ H q => ?_
    obtain ⟨H0, B, Δ, ρ, fr, P, o, sa, ty, wp, xs, nx, rt⟩ := q
    simp only [tyS] at ty
    obtain ⟨mk, Δ1, t1, ty⟩ := bind1 ty
    obtain ⟨x0, hx0, ty⟩ := bindO ty
    obtain ⟨y0, hy0, ty⟩ := bindO ty
    obtain ⟨mi, hmi, ty⟩ := bindO ty
    obtain ⟨mj, hmj, ty9⟩ := bindO ty
    split at ty9
    · cases ty9
    rename_i hok
    obtain ⟨o1, o2⟩ := pop_ty (j := 0) (y := .dead) (k := k) (mk := mk) (y0 := y0) (fun z => hok (z.elim .inl fun z => .inr (.inr (.inr z))))
    have ndx : x0 ≠ .dead := fun z => hok (.inr (.inr (.inl z)))
    obtain ⟨hm, hmi2, hkk, ho⟩ : (mj = .deep ∨ mj = .shal) ∧ (mi = .deep ∨ mi = .shal) ∧ ((mi = .deep ∧ mj.inner = .deep) ∨ (mi = .shal ∧ (mj.inner = .frz ∨ mj.inner = .deep))) ∧ o = some (Δ1.map killM) := by
      split at ty9
      · cases ty9; exact ⟨.inl rfl, .inl rfl, .inl ⟨rfl, rfl⟩, rfl⟩
      · cases ty9; exact ⟨.inl rfl, .inr rfl, .inr ⟨rfl, .inr rfl⟩, rfl⟩
      · cases ty9; exact ⟨.inr rfl, .inr rfl, .inr ⟨rfl, .inl rfl⟩, rfl⟩
      · cases ty9
    obtain ⟨ds0, e0, wp⟩ := asL_of wp
    obtain ⟨ds, eds, wp⟩ := asL_of wp
    obtain ⟨p, hp, vs0, s0⟩ := listV C.k sa hx0 ndx e0
    refine ⟨_, hp, .inl ⟨rfl, vs0, s0⟩, H0, B, Δ, ρ, fr, mk, Δ1, mj, _, P.ex, sa, t1, o1, ⟨y0, hy0, o2⟩, ⟨ds, eds⟩, hmj, hm, wp, xs.xc, fun d ys ρ1 w v B' H' b sa' => ?_⟩
    obtain ⟨zs, e2, ⟨hlim, w2⟩⟩ := asL_of w
    have hki : killM mi = mi := by rcases hmi2 with rfl | rfl <;> rfl
    have hmi' : (Δ1.map killM)[i]? = some mi := by rw [List.getElem?_map, hmi]; simp [hki]
    obtain ⟨p', B2, ev, b2, ha2, er, hil⟩ := SA.ready sa' hmi' hmi2 hkk e2 hp
    cases ev
    obtain ⟨vs, hH, hl, ha3⟩ := ha2.app hmi2 nobor_slots
    refine ⟨p, vs, v, rfl, rfl, hH, by rw [hl]; exact Nat.lt_of_lt_of_le hlim (by decide), ?_⟩
    have sa4 := SA.written ha3 hmi' hmi2 hp sa'.l1 sa'.l2
    have ekk : (Δ1.map killM).map killM = Δ1.map killM := by
      rw [List.map_map]
      refine List.map_congr_left fun m _ => ?_
      cases m <;> rfl
    rw [ekk] at sa4
    exact nx _ ho _ w2 B2 _ σ (b.tr b2) sa4
  · cases h
/-! ### x[i], x[j] = .. -/
theorem SA.readyT {mi : M} {y : D} {u : V} {T : List En} (hT : ∀ e ∈ T, e.m ≠ .bor) (h : SA c H0 B H Δ ρ σ (⟨m, y, some u⟩ :: T) fr) (hi : Δ[i]? = some mi) (hmi : mi = .deep ∨ mi = .shal) (hy : (mi = .deep ∧ m = .deep) ∨ (mi = .shal ∧ (m = .frz ∨ m = .deep))) (hx : ρ.getD i .hole = .lst ds) {v : V} (hv : σ[i]? = some (some v)) :
    ∃ p B', v = .ref p ∧ Ex B B' ∧ HA c H0 B' H (⟨mi.inner, y, some u⟩ :: ⟨mi, .lst ds, some (.ref p)⟩ :: (T ++ slots ((Δ.set i .dead).map killM) ρ σ)) fr := by
  have hb : mi ≠ .bor := by rcases hmi with rfl | rfl <;> exact fun z => nomatch z
  have hnd : mi ≠ .dead := by rcases hmi with rfl | rfl <;> exact fun z => nomatch z
  have hmb : m ≠ .bor := by
    rcases hy with ⟨_, rfl⟩ | ⟨_, rfl | rfl⟩ <;> exact fun z => nomatch z
  have key : ∀ {B2 : Hp} {m2 : M}, m2 ≠ .bor → SA c H0 B2 H Δ ρ σ (⟨m2, y, some u⟩ :: T) fr → ∃ p, v = .ref p ∧ HA c H0 B2 H (⟨m2, y, some u⟩ :: ⟨mi, .lst ds, some (.ref p)⟩ :: (T ++ slots ((Δ.set i .dead).map killM) ρ σ)) fr := fun {B2 m2} h2 s => by
    obtain ⟨w, hw, ha⟩ := SA.grip s (fun e he => (List.mem_cons.mp he).elim (fun z => by rw [z]; exact h2) (hT e)) hi hb hnd (by rw [hx]; trivial)
    rw [hv] at hw
    cases hw
    rw [hx] at ha
    obtain ⟨p, vs0, e, _, _⟩ := ha.openC hmi
    cases e
    exact ⟨p, rfl, ha.perm (List.Perm.swap ..)⟩
  rcases hy with ⟨rfl, rfl⟩ | ⟨rfl, rfl | rfl⟩
  · obtain ⟨p, e, q⟩ := key hmb h
    exact ⟨p, B, e, Ex.rfl', q⟩
  · obtain ⟨p, e, q⟩ := key hmb h
    exact ⟨p, B, e, Ex.rfl', q⟩
  · obtain ⟨B2, b2, s2⟩ := h.freeze rfl
    obtain ⟨p, e, q⟩ := key (m2 := .frz) (fun z => nomatch z) s2
    exact ⟨p, B2, e, b2, q⟩
theorem ss_swap {k1 k2 ie : IE} (hk1 : All c Ω tc k1) (hk2 : All c Ω tc k2) (ha : All c Ω tc ie) : SS1 c Ω ci tc res (.swap i k1 k2 ie) := by
  intro X mc W C s h
  unfold matchS1 at h
  split at h
  · rename_i x px s1 sp1 y py s2 sp2 kt0 pt0 vs kt pt pos
    obtain ⟨h, h8⟩ := and_of h
    obtain ⟨h, h7⟩ := and_of h
    obtain ⟨h, h6⟩ := and_of h
    obtain ⟨h, h5⟩ := and_of h
    obtain ⟨h, h4⟩ := and_of h
    obtain ⟨h, h3⟩ := and_of h
    obtain ⟨h1, h2⟩ := and_of h
    have sw : swapsWithSole [.Tuple [.Subscript (.Name x px) s1 sp1, .Subscript (.Name y py) s2 sp2] kt0 pt0] (.Tuple vs kt pt) pos.line X.env = pure false := rfl
    have st : swappedStores [.Tuple [.Subscript (.Name x px) s1 sp1, .Subscript (.Name y py) s2 sp2] kt0 pt0] (.Tuple vs kt pt) X.env = pure none := by
      unfold swappedStores
      dsimp only
      simp only [pure_bind, List.filterMap_cons, List.filterMap_nil, List.length_nil]
      split
      · rfl
      · split
        · rfl
        · rfl
    have as1 : ∀ {z : Expr} {n : Str} {np sp : Pos}, notSlice z = true → ∀ v, assign (.Subscript (.Name n np) z sp) X.env v = (do
      let ov ← holding [v] (eval (.Name n np) X.env)
      let iv ← holding [v, ov] (eval z X.env)
      standAt sp
      holding [v, ov, iv] (setItem ov iv v)
      release [v, ov, iv] []) := by
      intro z n np sp hz v
      cases z <;> first | rfl | cases hz
    refine PS.imp (ps_asg (ha.se X mc W C _ h7) (pg_tup C.calm (pgs_cons (pg_sub (name_of C h3) (hk1.se X mc W C s1 h5) set_list (as1 h1)) (pgs_cons (pg_sub (name_of C h4) (hk2.se X mc W C s2 h6) set_list (as1 h2)) pgs_nil))) sw st) fun D σ H q => ?_
    obtain ⟨H0, B, Δ, ρ, fr, P, o, sa, ty, wp, xs, nx, rt⟩ := q
    simp only [tyS] at ty
    obtain ⟨me, Δ1, t1, ty⟩ := bind1 ty
    obtain ⟨m, hm, ty⟩ := bindO ty
    cases one_of hm
    obtain ⟨mk, Δ2, t2, ty⟩ := bind1 ty
    obtain ⟨n, hn, ty⟩ := bindO ty
    cases one_of hn
    obtain ⟨ml, Δ3, t3, ty⟩ := bind1 ty
    obtain ⟨l, hl, ty⟩ := bindO ty
    cases one_of hl
    obtain ⟨x0, hx0, ty⟩ := bindO ty
    obtain ⟨mi, hmi, ty⟩ := bindO ty
    obtain ⟨mi', hmi', ty9⟩ := bindO ty
    split at ty9
    · cases ty9
    rename_i hok
    have nd0 : x0 ≠ .dead := fun z => hok (.inl z)
    have em : mi = mi' := by
      by_cases z : mi = mi'
      · exact z
      · exact absurd (.inr z) hok
    subst em
    obtain ⟨hdm, hkk, hmb, ho⟩ : (mi = .deep ∨ mi = .shal) ∧ ((mi = .deep ∧ m = .deep) ∨ (mi = .shal ∧ (m = .frz ∨ m = .deep))) ∧ m ≠ .bor ∧ o = some (Δ3.map killM) := by
      split at ty9
      · cases ty9; exact ⟨.inl rfl, .inl ⟨rfl, rfl⟩, (fun z => nomatch z), rfl⟩
      · cases ty9; exact ⟨.inr rfl, .inr ⟨rfl, .inr rfl⟩, (fun z => nomatch z), rfl⟩
      · cases ty9; exact ⟨.inr rfl, .inr ⟨rfl, .inl rfl⟩, (fun z => nomatch z), rfl⟩
      · cases ty9
    refine ⟨H0, B, Δ, ρ, [], fr, m, Δ1, _, P.ex, sa, t1, wp, xs.xc, fun d ρ1 w1 v B1 H1 b1 g1 sa1 n1 => ?_⟩
    obtain ⟨es, rfl, w1'⟩ := asT_of w1
    split at w1'
    · rename_i a b
      obtain ⟨pt, vt, rfl, stt, lt, sat⟩ := sa1.isRefT n1
      obtain ⟨va, vb, rfl⟩ : ∃ va vb, vt = [va, vb] := by
        cases vt with
        | nil => simp at lt
        | cons va vt =>
          cases vt with
          | nil => simp at lt
          | cons vb vt =>
            cases vt with
            | nil => exact ⟨va, vb, rfl⟩
            | cons _ _ => simp at lt
      rw [C.k] at stt
      obtain ⟨ds0, e0, w2⟩ := asL_of w1'
      obtain ⟨p, hp, _⟩ := listV C.k sat hx0 nd0 e0
      have sat' : SA c H0 B1 H1 Δ1 ρ1 σ (⟨m, a, some va⟩ :: ⟨m, b, some vb⟩ :: []) fr := sat
      refine ⟨pt, _, rfl, stt, rfl, va, _, rfl, _, hp, H0, B1, Δ1, ρ1, _, fr, n, Δ2, _, P.ex, sat', t2, w2, (xs.up b1).xc, fun d2 ρ2 w3 v2 B2 H2 b2 g2 sa2 n2 => ?_⟩
      obtain ⟨j1, rfl, w4⟩ := asI_of w3
      obtain rfl := sa2.isInt n2
      obtain ⟨ds2, e2, w5⟩ := asL_of w4
      obtain ⟨n1', hn1, w6⟩ := optG_of w5
      have hTb : ∀ e ∈ [(⟨m, b, some vb⟩ : En)], e.m ≠ .bor := fun e he => by rw [List.mem_singleton.mp he]; exact hmb
      obtain ⟨p', B3, ev, b3, ha3⟩ := SA.readyT hTb sa2.drop hmi hdm hkk e2 hp
      cases ev
      obtain ⟨vs3, hH3, hl3, ha4⟩ := HA.setL (j := n1') ha3 hdm (nobor_app hTb) (ixN_lt hn1)
      refine ⟨p, vs3, j1, n1', rfl, rfl, hH3, by rw [hl3]; exact hn1, ?_⟩
      have hb : mi ≠ .bor := by rcases hdm with rfl | rfl <;> exact fun z => nomatch z
      have sa5 := SA.ungrip ha4 hmi hb hp sa2.l1 sa2.l2
      refine ⟨vb, _, rfl, _, hp, H0, B3, Δ2.map killM, _, _, fr, l, Δ3, _, P.ex, sa5, t3, w6, (xs.up ((b1.tr b2).tr b3)).xc, fun d6 ρ6 w7 v6 B6 H6 b6 g6 sa6 n6 => ?_⟩
      obtain ⟨j2, rfl, w8⟩ := asI_of w7
      obtain rfl := sa6.isInt n6
      obtain ⟨ds6, e6, w9⟩ := asL_of w8
      obtain ⟨n2', hn2, w10⟩ := optG_of w9
      obtain ⟨p', B7, ev, b7, ha7⟩ := SA.readyT noT0 sa6.drop hmi' hdm hkk e6 hp
      cases ev
      obtain ⟨vs7, hH7, hl7, ha8⟩ := HA.setL (j := n2') ha7 hdm (nobor_app noT0) (ixN_lt hn2)
      refine ⟨p, vs7, j2, n2', rfl, rfl, hH7, by rw [hl7]; exact hn2, rfl, ?_⟩
      exact nx _ ho _ w10 B7 _ σ ((((b1.tr b2).tr b3).tr b6).tr b7) (SA.ungrip ha8 hmi' hb hp sa6.l1 sa6.l2)
    · exact w1'.elim
  · cases h
end
theorem ss_never {c : Cfg} {Ω : Str → FSem} {tc : SigT} {ci : Str → Option (List Str)} {res : M} : SS1 c Ω ci tc res .never := by
  intro X mc W C s h
  refine ⟨fun pins s1 σ H D I q => ?_⟩
  obtain ⟨H0, B, Δ, ρ, fr, P, o, sa, ty, wp, xs, nx, rt⟩ := q
  exact wp.elim
/-! ### each inner list gets a number behind -/
section
variable {c : Cfg} {Ω : Str → FSem} {ci : Str → Option (List Str)} {tc : SigT} {res : M} {H0 B B' H H' : Hp} {Δ Δ' : List M} {ρ ρ' : Dat} {σ σ' : List (Option V)} {T T' fr es es' : List En} {e : En} {m m' : M} {d : D} {ds ds' : Dat} {v : V} {vs us : List V} {ov : Option V} {i t : Nat} {p q : Addr}
theorem HA.ne2 {m1 m2 : M} {ds1 ds2 : Dat} (h : HA c H0 B H (⟨m1, .lst ds1, some (.ref q)⟩ :: ⟨m2, .lst ds2, some (.ref p)⟩ :: es) fr) (h1 : m1 = .deep ∨ m1 = .shal) (h2 : m2 = .deep ∨ m2 = .shal) : q ≠ p := by
  obtain ⟨_, L2, ⟨L3, _, rfl, r1, L5, L6, rfl, r2, r3⟩, _, nd, _, _⟩ := h.ex
  have n1 : m1 ≠ .dead := by rcases h1 with rfl | rfl <;> exact fun z => nomatch z
  have n2 : m2 ≠ .dead := by rcases h2 with rfl | rfl <;> exact fun z => nomatch z
  have r1 := (EnR.some_iff n1).mp r1
  have r2 := (EnR.some_iff n2).mp r2
  unfold Rep at r1 r2
  obtain ⟨p1, vs1, L1', e1, _, q1⟩ := r1
  obtain ⟨p2, vs2, L2', e2, _, q2⟩ := r2
  cases e1
  cases e2
  have m1 : q ∈ L3 := by
    rcases h1 with rfl | rfl <;> (rw [q1.1]; exact List.mem_cons_self)
  have m2 : p ∈ L5 := by
    rcases h2 with rfl | rfl <;> (rw [q2.1]; exact List.mem_cons_self)
  rw [List.append_assoc] at nd
  intro z
  exact (List.nodup_append.mp nd).2.2 q m1 p (List.mem_append_left _ (List.mem_append_left _ m2)) z
theorem HA.appItem {k : Nat} {xs : Dat} (h : HA c H0 B H (⟨.deep, .lst ds, some (.ref p)⟩ :: es) fr) (hk : ds[k]? = some (.lst xs)) (nb : ∀ e ∈ es, e.m ≠ .bor) (n : Int) :
    ∃ vs q us, H p = some (.lst vs) ∧ vs.length = ds.length ∧ vs[k]? = some (.ref q) ∧ H q = some (.lst us) ∧ us.length = xs.length ∧ upd H q (.lst (us ++ [.int n])) p = some (.lst vs) ∧
      HA c H0 B (upd H q (.lst (us ++ [.int n]))) (⟨.deep, .lst (ds.set k (.lst (xs ++ [.int n]))), some (.ref p)⟩ :: es) fr := by
  obtain ⟨p', vs, e, hp, hl, q1⟩ := h.openC (.inl rfl)
  cases e
  obtain ⟨kl, ek⟩ := List.getElem?_eq_some_iff.mp hk
  have kv : vs[k]? = some (vs[k]'(by omega)) := List.getElem?_eq_getElem (by omega)
  generalize vs[k]'(by omega) = w at kv
  have hat := ents_at (m := .deep) kv hk
  have pe := (perm_at hat (gone : En)).append_right (⟨.deep, .lst (holes vs.length), some (.ref p)⟩ :: es)
  have q2 : HA c H0 B H (⟨.deep, .lst xs, some w⟩ :: ((ents .deep ds vs).set k gone ++ ⟨.deep, .lst (holes vs.length), some (.ref p)⟩ :: es)) fr := HA.perm (HA.addGone q1) pe
  obtain ⟨v, L, ev, r⟩ := q2.rep (fun z => nomatch z) (fun z => nomatch z)
  cases ev
  unfold Rep at r
  obtain ⟨q, us0, L', rfl, _, _⟩ := r
  have q3 := q2.scal (m := .deep) (d := .int n) (v := .int n) (fun z => nomatch z) rep_int
  have nb2 : ∀ e ∈ (ents M.deep ds vs).set k gone ++ (⟨.deep, .lst (holes vs.length), some (.ref p)⟩ : En) :: es, e.m ≠ .bor := by
    intro e he
    rcases List.mem_append.mp he with z | z
    · rcases List.mem_or_eq_of_mem_set z with z | z
      · rw [ents_m z]; exact fun z => nomatch z
      · rw [z]; exact fun z => nomatch z
    · rcases List.mem_cons.mp z with z | z
      · rw [z]; exact fun z => nomatch z
      · exact nb e z
  obtain ⟨us, hq, ul, q4⟩ := HA.app (m := .deep) q3 (.inl rfl) nb2
  have q5 : HA c H0 B (upd H q (.lst (us ++ [.int n]))) (⟨.deep, .lst (xs ++ [.int n]), some (.ref q)⟩ :: ⟨.deep, .lst (holes vs.length), some (.ref p)⟩ :: ((ents .deep ds vs).set k gone ++ es)) fr := q4.perm (List.Perm.cons _ List.perm_middle)
  have ne := q5.ne2 (.inl rfl) (.inl rfl)
  have hp' : upd H q (.lst (us ++ [.int n])) p = some (.lst vs) := by rw [upd_ne (Ne.symm ne)]; exact hp
  refine ⟨vs, q, us, hp, hl, kv, hq, ul, hp', ?_⟩
  have gl : k < ((ents M.deep ds vs).set k gone).length := by rw [List.length_set, ents_len hl]; exact kl
  have ga : ((ents M.deep ds vs).set k gone)[k]? = some gone := by rw [List.getElem?_set_self (by rw [ents_len hl]; exact kl)]
  have pe2 := (perm_at ga (⟨.deep, .lst (xs ++ [.int n]), some (.ref q)⟩ : En)).append_right (⟨.deep, .lst (holes vs.length), some (.ref p)⟩ :: es)
  have q6 := (HA.perm q4 pe2).drop
  rw [List.set_set, ents_set hl] at q6
  have ew : vs.set k (V.ref q) = vs := by
    obtain ⟨h1, h2⟩ := List.getElem?_eq_some_iff.mp kv
    rw [← h2, List.set_getElem_self]
  rw [ew] at q6
  exact q6.closeC (.inl rfl) (by simp [hl]) hp'
theorem lstsOf_eq : ∀ {rows : Dat} {xss : List Dat}, lstsOf rows = some xss → rows = xss.map .lst
  | [], _, h => by cases h; rfl
  | .lst xs :: ds, _, h => by
    obtain ⟨r, hr, rfl⟩ := Option.map_eq_some_iff.mp (show (lstsOf ds).map (xs :: ·) = some _ from h)
    rw [lstsOf_eq hr]; rfl
  | .non :: _, _, h | .bl _ :: _, _, h | .int _ :: _, _, h | .str _ :: _, _, h | .tup _ :: _, _, h | .dct _ :: _, _, h | .ins _ _ _ :: _, _, h | .exc _ _ _ :: _, _, h | .hole :: _, _, h => by cases h
def eachK (n : Int) (xss : List Dat) (k : Nat) : Dat := xss.mapIdx fun j xs => if j < k then .lst (xs ++ [.int n]) else .lst xs
theorem eachK_zero (n : Int) (xss : List Dat) : eachK n xss 0 = xss.map .lst := by
  unfold eachK
  refine List.ext_getElem (by simp) fun j h1 h2 => by simp
theorem eachK_end (n : Int) (xss : List Dat) : eachK n xss xss.length = xss.map fun xs => .lst (xs ++ [.int n]) := by
  unfold eachK
  refine List.ext_getElem (by simp) fun j h1 h2 => ?_
  have : j < xss.length := by simpa using h2
  simp [this]
theorem eachK_len (n : Int) (xss : List Dat) (k : Nat) : (eachK n xss k).length = xss.length := by unfold eachK; simp
theorem eachK_get (n : Int) {xss : List Dat} {k : Nat} (h : k < xss.length) : (eachK n xss k)[k]? = some (.lst xss[k]) := by
  unfold eachK
  rw [List.getElem?_mapIdx, List.getElem?_eq_getElem h]
  simp
theorem eachK_at (n : Int) (xss : List Dat) (k j : Nat) : (eachK n xss k)[j]? = (xss[j]?).map fun xs => if j < k then .lst (xs ++ [.int n]) else .lst xs := by
  unfold eachK
  rw [List.getElem?_mapIdx]
theorem eachK_succ (n : Int) {xss : List Dat} {k : Nat} (h : k < xss.length) : (eachK n xss k).set k (.lst (xss[k] ++ [.int n])) = eachK n xss (k + 1) := by
  refine List.ext_getElem? fun j => ?_
  rw [List.getElem?_set, eachK_at, eachK_len, eachK_at]
  by_cases e : k = j
  · subst e
    rw [if_pos rfl, if_pos h, List.getElem?_eq_getElem h, Option.map_some, if_pos (by omega)]
  · rw [if_neg e]
    cases xss[j]? with
    | none => rfl
    | some x =>
      rw [Option.map_some, Option.map_some]
      by_cases c : j < k
      · rw [if_pos c, if_pos (by omega)]
      · rw [if_neg c, if_neg (by omega)]
theorem slots_m : ∀ {Δ : List M} {ρ : Dat} {σ : List (Option V)} {e : En}, e ∈ slots Δ ρ σ → e.m ∈ Δ
  | [], _, _, _, h => by cases h
  | _ :: _, [], _, _, h => by cases h
  | _ :: _, _ :: _, [], _, h => by cases h
  | m :: Δ, d :: ρ, v :: σ, e, h => by
    rcases List.mem_cons.mp (show e ∈ ⟨m, d, v⟩ :: slots Δ ρ σ from h) with z | z
    · rw [z]; exact List.mem_cons_self
    · exact List.mem_cons_of_mem _ (slots_m z)
theorem SA.putDead (h : SA c H0 B H Δ ρ σ T fr) (ht : t < σ.length) (ov : Option V) : SA c H0 B H (Δ.set t .dead) (ρ.set t .hole) (σ.set t ov) T fr :=
  SA.putIn (m := .dead) (d := .hole) (ov := ov) ⟨HA.addDead h.ha .hole ov, h.l1, h.l2⟩ ht
theorem ss_appEach {n : Int} (ha : SE c Ω tc (.int n)) : SS1 c Ω ci tc res (.appEach i t n) := by
  intro X mc W C s h
  unfold matchS1 at h
  split at h
  · rename_i t1 pt x px t2 p2 f apos y cpos pos1 pos2
    obtain ⟨h, h7⟩ := and_of h
    obtain ⟨h, h6⟩ := and_of h
    obtain ⟨h, h5⟩ := and_of h
    obtain ⟨h, h4⟩ := and_of h
    obtain ⟨h, h3⟩ := and_of h
    obtain ⟨h1, h2⟩ := and_of h
    have e1 := of_decide_eq_true h1
    subst e1
    refine PS.imp (ps_for C.pw C.calm (pi_list (name_of C h3)) (pg_tg C (tg := .one t) (e := .Name t1 pt) (by unfold matchTg; exact h2)) (pss_one (ps_expr (pe_bm PySem.F.plainAttrs_list PySem.F.slot_list_append PySem.F.type_list_append mt_append (name_of C h4) (pa_cons (ha X mc W C y h6) pa_nil (star_of h5)) (attrBase_of (e := .Name t2 p2) rfl) (by rw [star_of h5]; rfl) h7 (star_of h5) rfl) rfl)) (folded_of (e := .Name x px) rfl)) fun D σ H q => ?_
    obtain ⟨H0, B, Δ, ρ, fr, P, o, sa, ty, wp, xs, nx, rt⟩ := q
    simp only [tyS] at ty
    obtain ⟨x0, hx0, ty9⟩ := bindO ty
    split at ty9
    · rename_i hc
      obtain ⟨rfl, nit, tl⟩ := hc
      cases ty9
      obtain ⟨rows, e0, wp⟩ := asL_of wp
      obtain ⟨xss, hx, hlim, wp⟩ := optG_of wp
      have hr := lstsOf_eq hx
      obtain ⟨w, hw, er, hil, sa1⟩ := sa.slot hx0 (by rw [e0]; trivial) (fun z => nomatch z)
      rw [e0, hr] at sa1
      obtain ⟨p, vs0, rfl, sq0, _, _⟩ := sa1.isRefL (fun z => nomatch z)
      have ht : t < σ.length := by rw [← sa.l1]; exact tl
      have sa2 : SA c H0 B H ((Δ.set i .dead).map killM) ρ σ [⟨.deep, .lst (xss.map .lst), some (.ref p)⟩] fr := sa1.kill
      have sa3 := sa2.putDead ht (σ[t]'ht)
      rw [List.set_getElem_self] at sa3
      generalize eΔ : ((Δ.set i .dead).map killM).set t .dead = Δ2 at sa3
      generalize eρ : ρ.set t .hole = ρ2 at sa3 wp
      have again : ∀ {B H σ T}, SA c H0 B H Δ2 ρ2 σ T fr → t < σ.length → ∀ ov, SA c H0 B H Δ2 ρ2 (σ.set t ov) T fr := by
        intro B H σ T s hs ov
        have q := s.putDead hs ov
        rw [← eΔ, ← eρ] at q ⊢
        rw [List.set_set, List.set_set] at q
        exact q
      refine ⟨.ref p, hw, p, rfl, ⟨vs0, by rw [← C.k]; exact sq0⟩, fun k m σ' H' => m = xss.length - k ∧ k ≤ xss.length ∧ σ'[i]? = some (some (.ref p)) ∧ t < σ'.length ∧ ∃ B', Ex B B' ∧ SA c H0 B' H' Δ2 ρ2 σ' [⟨.deep, .lst (eachK n xss k), some (.ref p)⟩] fr,
        ⟨_, rfl, Nat.zero_le _, hw, ht, B, Ex.rfl', by rw [eachK_zero]; exact sa3⟩, ?_⟩
      rintro k m σ' H' ⟨rfl, hk, hw', ht', B', b', sk⟩
      by_cases hlt : k < xss.length
      · have gk := eachK_get n hlt
        have nbs : ∀ e ∈ slots Δ2 ρ2 σ', e.m ≠ .bor := by
          rw [← eΔ]
          intro e he
          have : ∀ m ∈ ((Δ.set i .dead).map killM).set t .dead, m ≠ .bor := fun m hm => by
            rcases List.mem_or_eq_of_mem_set hm with z | z
            · obtain ⟨x, _, rfl⟩ := List.mem_map.mp z
              cases x <;> exact fun z => nomatch z
            · rw [z]; exact fun z => nomatch z
          exact this _ (slots_m he)
        obtain ⟨vs, q, us, hp, hl, hv, hq, hu, _, _⟩ := HA.appItem (es := slots Δ2 ρ2 σ') sk.ha gk nbs n
        have sqp : SqL X.K H' p vs := SqL.of hp
        refine .inr ⟨⟨vs, _, sqp, hv⟩, fun σ2 H2 => (∃ m', m' < xss.length - k ∧ (m' = xss.length - (k + 1) ∧ k + 1 ≤ xss.length ∧ σ2[i]? = some (some (.ref p)) ∧ t < σ2.length ∧ ∃ B', Ex B B' ∧ SA c H0 B' H2 Δ2 ρ2 σ2 [⟨.deep, .lst (eachK n xss (k + 1)), some (.ref p)⟩] fr)), fun _ _ z => z, ?_⟩
        rintro x H3 ⟨rfl, hy⟩
        obtain rfl : x = .ref q := Option.some.inj ((hy vs sqp).symm.trans hv)
        have sa4 := again sk ht' (some (.ref q))
        refine ⟨.ref q, by rw [List.getElem?_set_self ht'], .inl ⟨rfl, us, SqL.of hq⟩, H0, B', Δ2, ρ2, _, fr, .deep, Δ2, fun d ρ1 => d = .int n ∧ ρ1 = ρ2, noX, sa4, rfl, ⟨rfl, rfl⟩, (fun _ _ z => z.elim), ?_⟩
        rintro d ρ1 ⟨rfl, rfl⟩ v B1 H1 b1 g1 sa5 n1
        obtain rfl := sa5.isInt n1
        have nbs2 : ∀ e ∈ slots Δ2 ρ1 (σ'.set t (some (.ref q))), e.m ≠ .bor := by
          intro e he
          have : ∀ m ∈ Δ2, m ≠ .bor := fun m hm => by
            rw [← eΔ] at hm
            rcases List.mem_or_eq_of_mem_set hm with z | z
            · obtain ⟨x, _, rfl⟩ := List.mem_map.mp z
              cases x <;> exact fun z => nomatch z
            · rw [z]; exact fun z => nomatch z
          exact this _ (slots_m he)
        obtain ⟨vs', q', us', hp', hl', hv', hq', hu', _, ha'⟩ := HA.appItem (es := slots Δ2 ρ1 (σ'.set t (some (.ref q)))) sa5.drop.ha gk nbs2 n
        rw [g1 p _ hp] at hp'
        cases hp'
        rw [hv] at hv'
        cases hv'
        rw [eachK_succ n hlt] at ha'
        refine ⟨q, us', .int n, rfl, rfl, hq', ?_, _, by omega, rfl, hlt, by rw [List.getElem?_set_ne (Ne.symm nit)]; exact hw', by rw [List.length_set]; exact ht', B1, b'.tr b1, ⟨ha', sa5.l1, sa5.l2⟩⟩
        rw [hu']
        exact Nat.lt_of_lt_of_le (hlim _ (List.getElem_mem hlt)) (by decide)
      · obtain rfl : k = xss.length := by omega
        obtain ⟨_, vs, e, sq, hl, _⟩ := sk.isRefL (fun z => nomatch z)
        cases e
        refine .inl ⟨⟨vs, by rw [← C.k]; exact sq, by rw [hl, eachK_len]; exact Nat.le_refl _⟩, ?_⟩
        have il' : i < σ'.length := (List.getElem?_eq_some_iff.mp hw').1
        have fin := sk.putIn il'
        rw [eachK_end] at fin
        have es : σ'.set i (some (.ref p)) = σ' := by
          obtain ⟨_, e⟩ := List.getElem?_eq_some_iff.mp hw'
          conv => lhs; rw [← e]
          exact List.set_getElem_self _
        have ed : Δ2.set i .deep = (Δ.map killM).set t .dead := by
          rw [← eΔ, List.set_comm _ _ (Ne.symm nit), kill_back hx0 rfl]
        rw [es, ed] at fin
        exact nx _ rfl _ wp B' H' σ' b' fin
    · cases ty9
  · cases h
end
theorem no1 {c : Cfg} {Ω : Str → FSem} {tc : SigT} {ci : Str → Option (List Str)} {res : M} {s : IS} (h : ∀ mc st, matchS1 mc s st = false) : SS1 c Ω ci tc res s := fun X mc W C st q => by rw [h mc st] at q; cases q
theorem noS {c : Cfg} {Ω : Str → FSem} {tc : SigT} {ci : Str → Option (List Str)} {res : M} {s : IS} (h : ∀ mc st, matchS mc s st = false) : SSs c Ω ci tc res s := fun X mc W C st q => by rw [h mc st] at q; cases q
theorem allS {c : Cfg} {Ω : Str → FSem} {ci : Str → Option (List Str)} {res : M} (is : IS) : ∀ tc : SigT, SSs c Ω ci tc res is ∧ SS1 c Ω ci tc res is := by
  induction is with
  | nil => exact fun tc => ⟨ss_nil, no1 fun _ _ => by unfold matchS1; rfl⟩
  | cons s r hs hr => exact fun tc => ⟨ss_cons (hs tc).2 (hr tc).1, no1 fun _ _ => by unfold matchS1; rfl⟩
  | set i e => exact fun tc => ⟨noS fun _ _ => (by unfold matchS; rfl), ss_set (allE e tc) fun own elt tg it cond _ => ⟨(allE it tc).si, (allE cond _).ste, (allE elt _).se⟩⟩
  | par i j a b => exact fun tc => ⟨noS fun _ _ => (by unfold matchS; rfl), no1 fun _ _ => by unfold matchS1; rfl⟩
  | unp l e => exact fun tc => ⟨noS fun _ _ => (by unfold matchS; rfl), ss_unp (allE e tc)⟩
  | ite c a b ha hb => exact fun tc => ⟨noS fun _ _ => (by unfold matchS; rfl), ss_ite (allE c tc) (ha tc).1 (hb tc).1⟩
  | «for» tg it inv body hb => exact fun tc => ⟨noS fun _ _ => (by unfold matchS; rfl), ss_for (allE it tc) (hb tc).1⟩
  | «while» c inv body hb => exact fun tc => ⟨noS fun _ _ => (by unfold matchS; rfl), ss_while (allE c tc) (hb tc).1⟩
  | ret e => exact fun tc => ⟨noS fun _ _ => (by unfold matchS; rfl), ss_ret (allE e tc)⟩
  | retN => exact fun tc => ⟨noS fun _ _ => (by unfold matchS; rfl), ss_retN⟩
  | drop e => exact fun tc => ⟨noS fun _ _ => (by unfold matchS; rfl), ss_drop (allE e tc)⟩
  | doc => exact fun tc => ⟨noS fun _ _ => (by unfold matchS; rfl), ss_doc⟩
  | app i e => exact fun tc => ⟨noS fun _ _ => (by unfold matchS; rfl), ss_app (allE e tc)⟩
  | setix i k e => exact fun tc => ⟨noS fun _ _ => (by unfold matchS; rfl), ss_setix (allE k tc) (allE e tc)⟩
  | dput i k e => exact fun tc => ⟨noS fun _ _ => (by unfold matchS; rfl), ss_dput (allE k tc) (allE e tc)⟩
  | appPop i j k => exact fun tc => ⟨noS fun _ _ => (by unfold matchS; rfl), ss_appPop (allE k tc)⟩
  | popS j k => exact fun tc => ⟨noS fun _ _ => (by unfold matchS; rfl), ss_popS (allE k tc)⟩
  | setPop i j k => exact fun tc => ⟨noS fun _ _ => (by unfold matchS; rfl), ss_setPop (allE k tc)⟩
  | swap i k1 k2 e => exact fun tc => ⟨noS fun _ _ => (by unfold matchS; rfl), ss_swap (allE k1 tc) (allE k2 tc) (allE e tc)⟩
  | raise C => exact fun tc => ⟨noS fun _ _ => (by unfold matchS; rfl), ss_raise⟩
  | appEach i t n => exact fun tc => ⟨noS fun _ _ => (by unfold matchS; rfl), ss_appEach (allE (.int n) tc).se⟩
  | never => exact fun tc => ⟨noS fun _ _ => (by unfold matchS; rfl), ss_never⟩
  | raiseF C r => exact fun tc => ⟨noS fun _ _ => (by unfold matchS; rfl), no1 fun _ _ => by unfold matchS1; rfl⟩
  | appT e a => exact fun tc => ⟨noS fun _ _ => (by unfold matchS; rfl), ss_appT (allE e tc) (allE a tc)⟩
  | tryx i j Δx body hb => exact fun tc => ⟨noS fun _ _ => (by unfold matchS; rfl), ss_try (hb ⟨tc.sg, some Δx⟩).1⟩
  | aug i s e => exact fun tc => ⟨noS fun _ _ => (by unfold matchS; rfl), ss_aug (allE e tc)⟩
end FM

set_option Elab.async false
set_option linter.all false
set_option maxRecDepth 100000
namespace FM
open PySem L2
/-! ## a def -/
def stOf (sc : Scope) (x : Str) : Bool := decide (sc.names.lookup x = some .local) || decide (sc.names.lookup x = some .cell)
def mcOf (N : List Str) (sc : Scope) (ic rz : Str → Bool) (tr : Bool) (gl : Str → Option Int) : MC := ⟨N, sc, stOf sc, ic, rz, true, tr, gl⟩
def start0 (n k : Nat) : List M := List.replicate n .frz ++ List.replicate (k - n) .dead
def holesTo (ds : Dat) (k : Nat) : Dat := ds ++ List.replicate (k - ds.length) .hole
def poOf (Q : D → Prop) (X : D → Prop) : Po := ⟨fun _ => Q .non, Q, fun e _ => X e⟩
section
variable {c : Cfg} {Ω : Str → FSem} {tc : SigT} {H0 B B' H H' : Hp} {fr : List En}
theorem slots_start {n : Nat} : ∀ {ds : Dat} {vs : List V} (k : Nat), vs.length = ds.length → ds.length = n → ∃ r : List En, slots (List.replicate n .frz ++ List.replicate k .dead) (ds ++ List.replicate k .hole) (vs.map some ++ List.replicate k none) = ents .frz ds vs ++ r ∧ ∀ e ∈ r, e.m = .dead
  | ds, vs, k, h1, h2 => by
    induction n generalizing ds vs with
    | zero =>
      have e1 : ds = [] := List.length_eq_zero_iff.mp h2
      subst e1
      have e2 : vs = [] := List.length_eq_zero_iff.mp h1
      subst e2
      refine ⟨_, rfl, ?_⟩
      induction k with
      | zero => intro e he; simp [slots] at he
      | succ k ih =>
        intro e he
        rcases List.mem_cons.mp (show e ∈ (⟨.dead, .hole, none⟩ : En) :: slots (List.replicate k .dead) (List.replicate k .hole) (List.replicate k none) from he) with z | z
        · rw [z]
        · exact ih e z
    | succ n ih =>
      cases ds with
      | nil => simp at h2
      | cons d ds =>
        cases vs with
        | nil => simp at h1
        | cons v vs =>
          obtain ⟨r, e, hr⟩ := ih (ds := ds) (vs := vs) (by simpa using h1) (by simpa using h2)
          refine ⟨r, ?_, hr⟩
          show (⟨.frz, d, some v⟩ : En) :: slots (List.replicate n .frz ++ List.replicate k .dead) (ds ++ List.replicate k .hole) (vs.map some ++ List.replicate k none) = _
          rw [e]; rfl
theorem deads {es : List En} (h : ∀ e ∈ es, e.m = .dead) : EnRs c B H es [] := by
  induction es with
  | nil => rfl
  | cons e es ih => exact ⟨[], [], rfl, .inl ⟨rfl, .inl (h e List.mem_cons_self)⟩, ih fun x hx => h x (List.mem_cons_of_mem _ hx)⟩
theorem start_sa {N : List Str} {n : Nat} {ds : Dat} {vs : List V} (h : HA c H B H (ents .frz ds vs) fr) (h1 : vs.length = n) (h2 : ds.length = n) (hn : n ≤ N.length) : SA c H B H (start0 n N.length) (holesTo ds N.length) (L2.start N vs) [] fr := by
  obtain ⟨r, e, hr⟩ := slots_start (n := n) (ds := ds) (vs := vs) (N.length - n) (by omega) h2
  have e2 : slots (start0 n N.length) (holesTo ds N.length) (L2.start N vs) = ents .frz ds vs ++ r := by
    unfold start0 holesTo L2.start
    rw [h2, h1]
    exact e
  refine ⟨?_, ?_, ?_⟩
  · show HA c H B H (slots (start0 n N.length) (holesTo ds N.length) (L2.start N vs)) fr
    rw [e2]
    exact (h.addUn (deads hr)).perm List.perm_append_comm
  · unfold start0 L2.start
    simp [h1]
  · unfold holesTo L2.start
    simp [h1, h2]
end
/-- what the names stand for, where the law is called -/
structure World0 (P : Program) (w : World) (K : PySem.W.Frag) (mg : Str → Option Value) (base : Heap) (c : Cfg) (ic rz : Str → Bool) (tr : Bool) (gl : Str → Option Int) : Prop where
  gl : ∀ x n, gl x = some n → ∃ t, mg x = some (.int n t)
  k : c.K = K
  rz : ∀ x, rz x = true → ∃ a B newId initId bmB, c.cls x = some a ∧ mg x = some (.ref a) ∧ ExcBaseFacts B newId initId bmB ∧ PySem.W.excIn K a bmB newId = true ∧ PySem.W.keepIn K (.ref a) = true ∧
    PySem.W.subIn K (.ref a) (.type "BaseException") = some true ∧ PySem.W.typeIn K (.ref a) = some (.type "type")
  kt : ∀ T, ic T = true → ∃ v u, Kt K mg c T v u
  tr : tr = true → ∃ F, mg "FlatError" = some (.ref F) ∧ ∀ C a, c.cls C = some a → isExc C = true → PySem.W.exmOne K (.ref a) (.ref F) = some true
  bt : ∀ x, x ∈ (["len", "abs", "min", "max", "sum", "any", "all", "int", "str", "list", "tuple", "range", "zip", "enumerate", "reversed", "isinstance", "sorted", "dict", "set", "bool", "ValueError"] : List Str) → mg x = none
/-- the defs that stand, at most k deep -/
def Tab (P : Program) (w : World) (K : PySem.W.Frag) (mg : Str → Option Value) (base : Heap) (c : Cfg) (Ω : Str → FSem) (sg : Str → Option Sig) (k : Nat) : Prop :=
  ∀ f s, sg f = some s → ∃ a fd ps kf, kf ≤ k ∧ mg f = some (.ref a) ∧ PySem.W.keepIn K (.ref a) = true ∧ Binds K fd ps [] ∧ FnOk P w K mg base (L2.CX P w) kf a fd ps (spOf c (Ω f) s)
theorem Tab.none {P : Program} {w : World} {K : PySem.W.Frag} {mg : Str → Option Value} {base : Heap} {c : Cfg} {Ω : Str → FSem} {k : Nat} : Tab P w K mg base c Ω (fun _ => none) k := fun _ _ h => nomatch h
theorem def_ok {P : Program} {w : World} {K : PySem.W.Frag} {mg : Str → Option Value} {base : Heap} {c : Cfg} {ic rz : Str → Bool} {tr : Bool} {gl : Str → Option Int} (W0 : World0 P w K mg base c ic rz tr gl) {Ω : Str → FSem} {sg : Str → Option Sig} {k : Nat} (T : Tab P w K mg base c Ω sg k)
    {x qual : Str} {st : Stmt} {f : Addr} {fd : FuncData} {N ps : List Str} (F : Fun K x qual st f fd) (S : FnScope N ps (defScope st)) {ci : Str → Option (List Str)} {is : IS} {res : M} {o : TyO} {sem : FSem} (hps : ps.length ≤ N.length)
    (hm : matchS (mcOf N (defScope st) ic rz tr gl) is (defBody st) = true) (hres : res ≠ .dead) (ht : tyS ⟨sg, none⟩ res is (start0 ps.length N.length) = some o)
    (hs : ∀ ds Q X, ds.length = ps.length → sem ds Q X → wpS Ω ci is (holesTo ds N.length) (poOf Q X)) : FnOk P w K mg base (L2.CX P w) (k + 1) f fd ps (spOf c sem ⟨ps.length, res⟩) := by
  refine F.okX S (fun vs H Q E h => ?_) (fun cdv A outer s H vs Q E hr h => ?_)
  · obtain ⟨_, _, _, _, _, h, _⟩ := h
    exact h
  · obtain ⟨B, ds, fr, Qd, Xd, l1, l2, hsem, ha, hq, hx⟩ := h
    let X := cxOf (L2.CX P w) P w K mg base N qual (defScope st) f cdv A outer s H E
    have C : Ctx X c Ω ⟨sg, none⟩ (mcOf N (defScope st) ic rz tr gl) (fun cls d _ H => E cls d H) := {
      n := rfl
      s := rfl
      nd := S.nd
      calm := rfl
      sto := fun x h => by
        have h' : (decide ((defScope st).names.lookup x = some .local) || decide ((defScope st).names.lookup x = some .cell)) = true := h
        rcases Bool.or_eq_true_iff.mp h' with q | q
        · exact ⟨.inl (of_decide_eq_true q), .inl rfl⟩
        · exact ⟨.inr (of_decide_eq_true q), .inl rfl⟩
      tk := takes_of (X := X) rfl rfl rfl rfl
      pw := passes_of (X := X) rfl
      k := W0.k
      rm := hr.mono (Nat.zero_le _)
      fn := fun g s hg => by
        obtain ⟨a, fd, ps, kf, hk, h1, h2, h3, h4⟩ := T g s hg
        exact ⟨a, fd, ps, kf, h1, h2, h3, h4, hr.mono hk⟩
      rz := W0.rz
      kt := W0.kt
      df := fun _ => ⟨rfl, rfl, rfl⟩
      tr := W0.tr
      gl := W0.gl
      bt := W0.bt }
    refine ⟨tS c Ω ci ⟨sg, none⟩ (fun cls d _ H => E cls d H) res is, (allS is _).1 X _ _ C _ hm, ?_⟩
    refine ⟨H, B, start0 ps.length N.length, holesTo ds N.length, fr, poOf Qd Xd, o, start_sa ha l1 l2 hps, ht, hs ds Qd Xd l2 hsem, ?_, ?_, ?_⟩
    · intro x ρ' hxd Δx cls dx B' H' σ' _ b er sa
      exact hx x hxd cls dx B' H' b sa.ha.h0 er (HA.dropR (es := []) sa.ha)
    · intro Δ' _ ρ' hn B' H' σ' b sa
      exact hq .non hn .non B' H' b sa.ha.h0 (HA.dropR (es := [⟨res, .non, some .non⟩]) (sa.scal (m := res) hres rep_non).ha)
    · intro d hd v B' H' m b ha hok
      obtain ⟨h1, h2⟩ := and_of hok
      obtain ⟨B2, b2, ha2⟩ := ha.le h1
      exact hq d hd v B2 H' (b.tr b2) ha2.h0 ha2
/-- the law is called with its script -/
theorem law_sp {c : Cfg} {sem : FSem} {H : Hp} {a : Addr} {ns : List Int} {Q : VK} {E : XK} (hS : SqL c.K H a (ns.map V.int)) (h : sem [.lst (ns.map D.int)] (fun d => d = .bl true) (fun _ => False)) (hQ : ∀ H', Q (.bl true) H') :
    spOf c sem ⟨1, .deep⟩ [.ref a] H Q E := by
  refine ⟨H, [.lst (ns.map D.int)], [], (fun d => d = .bl true), (fun _ => False), rfl, rfl, h, ?_, ?_, fun x z => z.elim⟩
  · refine HA.scal (HA.nil c H) (fun z => nomatch z) ?_
    unfold Rep
    refine ⟨a, ns.map V.int, [], rfl, ?_, rfl, hS⟩
    have : ∀ ns : List Int, Reps c H H (ns.map D.int) (M.inner .frz) (ns.map V.int) [] := by
      intro ns
      induction ns with
      | nil => exact Reps.nil_iff.mpr ⟨rfl, rfl⟩
      | cons n ns ih => exact Reps.cons_iff.mpr ⟨_, _, [], [], rfl, rfl, rep_int, ih⟩
    exact this ns
  · rintro d rfl v B' H' b g ha
    obtain ⟨w, L, e, r⟩ := HA.rep ha (fun z => nomatch z) (fun z => nomatch z)
    cases e
    unfold Rep at r
    rw [r.2]
    exact hQ H'
end FM

set_option Elab.async false
set_option linter.all false
set_option maxRecDepth 100000
/-! places, signs, sums: plain laws -/
namespace FM
open PySem L2
open PySem.W (keyToks keyToksAll)
abbrev Tm := List Int × Int
/-! ### signs -/
def e1 (x y : Int) : Int := if x = y then 0 else if y < x then -1 else 1
def eps (x : Int) : List Int → Int
  | [] => 1
  | y :: ys => e1 x y * eps x ys
def sg : List Int → Int
  | [] => 1
  | x :: xs => eps x xs * sg xs
theorem e1_swap (x y : Int) : e1 x y = - e1 y x := by
  unfold e1
  by_cases h : x = y
  · rw [if_pos h, if_pos (Eq.symm h)]; rfl
  · rw [if_neg h, if_neg (fun z => h (Eq.symm z))]
    by_cases q : y < x
    · rw [if_pos q, if_neg (by omega)]
    · rw [if_neg q, if_pos (by omega)]; rfl
theorem e1_sq {x y : Int} (h : x ≠ y) : e1 x y * e1 x y = 1 := by
  unfold e1
  rw [if_neg h]
  split <;> rfl
theorem eps_append (x : Int) : ∀ l r : List Int, eps x (l ++ r) = eps x l * eps x r
  | [], r => (Int.one_mul _).symm
  | y :: l, r => by
    show e1 x y * eps x (l ++ r) = e1 x y * eps x l * eps x r
    rw [eps_append x l r, Int.mul_assoc]
theorem eps_perm (x : Int) {l r : List Int} (h : l.Perm r) : eps x l = eps x r := by
  induction h with
  | nil => rfl
  | cons y _ ih => show e1 x y * _ = e1 x y * _; rw [ih]
  | swap y z l => show e1 x z * (e1 x y * _) = e1 x y * (e1 x z * _); rw [Int.mul_left_comm]
  | trans _ _ h1 h2 => rw [h1, h2]
theorem eps_zero {x : Int} : ∀ {l : List Int}, x ∈ l → eps x l = 0
  | [], h => nomatch h
  | y :: l, h => by
    show e1 x y * eps x l = 0
    rcases List.mem_cons.mp h with rfl | h
    · unfold e1; rw [if_pos rfl, Int.zero_mul]
    · rw [eps_zero h, Int.mul_zero]
theorem eps_ne {x : Int} : ∀ {l : List Int}, x ∉ l → eps x l = 1 ∨ eps x l = -1
  | [], _ => .inl rfl
  | y :: l, h => by
    have h1 : x ≠ y := fun z => h (z ▸ List.mem_cons_self)
    have h2 : x ∉ l := fun z => h (List.mem_cons_of_mem _ z)
    show e1 x y * eps x l = 1 ∨ e1 x y * eps x l = -1
    have h3 : e1 x y = 1 ∨ e1 x y = -1 := by
      unfold e1
      rw [if_neg h1]
      split
      · exact .inr rfl
      · exact .inl rfl
    rcases h3 with h3 | h3 <;> rcases eps_ne h2 with h4 | h4 <;> rw [h3, h4] <;> decide
theorem sg_swap (x y : Int) : ∀ l r : List Int, sg (l ++ x :: y :: r) = - sg (l ++ y :: x :: r)
  | [], r => by
    show e1 x y * eps x r * (eps y r * sg r) = -(e1 y x * eps y r * (eps x r * sg r))
    rw [e1_swap x y, Int.neg_mul, Int.neg_mul]
    congr 1
    rw [Int.mul_assoc, Int.mul_assoc, Int.mul_left_comm (eps x r)]
  | z :: l, r => by
    show eps z (l ++ x :: y :: r) * sg (l ++ x :: y :: r) = -(eps z (l ++ y :: x :: r) * sg (l ++ y :: x :: r))
    rw [sg_swap x y l r, eps_perm z (show (l ++ x :: y :: r).Perm (l ++ y :: x :: r) from List.Perm.append_left _ (List.Perm.swap ..)), Int.mul_neg]
theorem sg_zero : ∀ {l : List Int}, ¬ l.Nodup → sg l = 0
  | [], h => absurd List.nodup_nil h
  | x :: l, h => by
    show eps x l * sg l = 0
    by_cases hx : x ∈ l
    · rw [eps_zero hx, Int.zero_mul]
    · rw [sg_zero (fun z => h (List.nodup_cons.mpr ⟨hx, z⟩)), Int.mul_zero]
theorem sg_ne : ∀ {l : List Int}, l.Nodup → sg l = 1 ∨ sg l = -1
  | [], _ => .inl rfl
  | x :: l, h => by
    obtain ⟨h1, h2⟩ := List.nodup_cons.mp h
    show eps x l * sg l = 1 ∨ eps x l * sg l = -1
    rcases eps_ne h1 with h3 | h3 <;> rcases sg_ne h2 with h4 | h4 <;> rw [h3, h4] <;> decide
theorem sg_le (l : List Int) : (sg l).natAbs ≤ 1 := by
  by_cases h : l.Nodup
  · rcases sg_ne h with e | e <;> rw [e] <;> decide
  · rw [sg_zero h]; decide
abbrev Asc (l : List Int) : Prop := l.Pairwise (· < ·)
theorem Asc.nodup {l : List Int} (h : Asc l) : l.Nodup := h.imp fun h e => by omega
theorem eps_asc {x : Int} : ∀ {l : List Int}, (∀ y ∈ l, x < y) → eps x l = 1
  | [], _ => rfl
  | y :: l, h => by
    show e1 x y * eps x l = 1
    rw [eps_asc fun z hz => h z (List.mem_cons_of_mem _ hz)]
    have := h y List.mem_cons_self
    unfold e1
    rw [if_neg (by omega), if_neg (by omega)]; rfl
theorem sg_asc : ∀ {l : List Int}, Asc l → sg l = 1
  | [], _ => rfl
  | x :: l, h => by
    obtain ⟨h1, h2⟩ := List.pairwise_cons.mp h
    show eps x l * sg l = 1
    rw [eps_asc h1, sg_asc h2]; rfl
/-- from the end: what is put behind -/
theorem sg_snoc (x : Int) : ∀ l : List Int, sg (l ++ [x]) = sg l * (l.map fun y => e1 y x).foldr (· * ·) 1
  | [] => rfl
  | y :: l => by
    show eps y (l ++ [x]) * sg (l ++ [x]) = eps y l * sg l * (e1 y x * (l.map fun y => e1 y x).foldr (· * ·) 1)
    rw [eps_append, sg_snoc x l]
    show eps y l * (e1 y x * 1) * _ = _
    rw [Int.mul_one, Int.mul_assoc, Int.mul_assoc, Int.mul_left_comm (e1 y x)]
/-! ### in order -/
def srt (l : List Int) : List Int := l.mergeSort fun a b => decide (a ≤ b)
theorem srt_perm (l : List Int) : (srt l).Perm l := List.mergeSort_perm l _
theorem srt_sorted (l : List Int) : (srt l).Pairwise (· ≤ ·) := by
  have := List.pairwise_mergeSort (le := fun a b : Int => decide (a ≤ b)) (fun a b c h1 h2 => decide_eq_true (Int.le_trans (of_decide_eq_true h1) (of_decide_eq_true h2))) (fun a b => by
    rcases Int.le_total a b with h | h
    · rw [decide_eq_true h]; rfl
    · rw [decide_eq_true h, Bool.or_true]) l
  exact this.imp fun h => of_decide_eq_true h
theorem sorted_uniq {α : Type} {le : α → α → Prop} (anti : ∀ a b, le a b → le b a → a = b) : ∀ {l r : List α}, l.Perm r → l.Pairwise le → r.Pairwise le → l = r
  | [], r, p, _, _ => (List.nil_perm.mp p).symm
  | x :: l, [], p, _, _ => (List.perm_nil.mp p)
  | x :: l, y :: r, p, hl, hr => by
    obtain ⟨l1, l2⟩ := List.pairwise_cons.mp hl
    obtain ⟨r1, r2⟩ := List.pairwise_cons.mp hr
    have e : x = y := by
      rcases List.mem_cons.mp (p.mem_iff.mp List.mem_cons_self) with h | h
      · exact h
      · rcases List.mem_cons.mp (p.mem_iff.mpr List.mem_cons_self) with h' | h'
        · exact h'.symm
        · exact anti _ _ (l1 _ h') (r1 _ h)
    subst e
    rw [sorted_uniq anti (List.Perm.cons_inv p) l2 r2]
theorem srt_uniq {l r : List Int} (p : r.Perm l) (h : r.Pairwise (· ≤ ·)) : r = srt l :=
  sorted_uniq (fun a b h1 h2 => Int.le_antisymm h1 h2) (p.trans (srt_perm l).symm) h (srt_sorted l)
theorem srt_congr {l r : List Int} (p : l.Perm r) : srt l = srt r := srt_uniq ((srt_perm l).trans p) (srt_sorted l)
theorem srt_asc {l : List Int} (h : Asc l) : srt l = l := (srt_uniq (List.Perm.refl l) (h.imp fun h => Int.le_of_lt h)).symm
theorem srt_len (l : List Int) : (srt l).length = l.length := (srt_perm l).length_eq
theorem srt_nodup {l : List Int} (h : l.Nodup) : Asc (srt l) := by
  have h1 := (srt_perm l).nodup_iff.mpr h
  have h2 := srt_sorted l
  exact (h2.and h1).imp fun ⟨a, b⟩ => by omega
/-! ### the order of terms -/
def pdI (l : List Int) : PyData := .tuple (l.map PyData.int)
def pdT (t : Tm) : PyData := .tuple [pdI t.1, .int t.2]
def leT (a b : Tm) : Bool := PySem.W.dataLe false pdT a b
theorem toks_cons (x : PyData) (xs : List PyData) : keyToksAll (x :: xs) = Sum.inl 1 :: (keyToks x ++ keyToksAll xs) := by rw [keyToksAll]
theorem toks_inj : ∀ {a b : List Int} {r s : List (Int ⊕ List Nat)}, keyToksAll (a.map PyData.int) ++ r = keyToksAll (b.map PyData.int) ++ s → a = b ∧ r = s
  | [], [], r, s, h => by
    refine ⟨rfl, ?_⟩
    simpa [keyToksAll] using h
  | [], y :: b, r, s, h => by
    rw [List.map_nil, List.map_cons, toks_cons, keyToksAll] at h
    simp at h
  | x :: a, [], r, s, h => by
    rw [List.map_nil, List.map_cons, toks_cons, keyToksAll] at h
    simp at h
  | x :: a, y :: b, r, s, h => by
    rw [List.map_cons, List.map_cons, toks_cons, toks_cons] at h
    simp only [keyToks, List.cons_append, List.nil_append, List.cons.injEq, true_and] at h
    obtain ⟨h1, h2⟩ := h
    obtain ⟨h3, h4⟩ := toks_inj h2
    have : x = y := by simpa using h1
    exact ⟨by rw [this, h3], h4⟩
theorem pdT_toks (t : Tm) : keyToks (pdT t) = Sum.inl 1 :: (keyToksAll (t.1.map PyData.int) ++ [Sum.inl 1, Sum.inl t.2, Sum.inl 0]) := by
  show keyToksAll [pdI t.1, .int t.2] = _
  rw [toks_cons, toks_cons]
  show Sum.inl 1 :: (keyToksAll (t.1.map PyData.int) ++ (Sum.inl 1 :: ([Sum.inl t.2] ++ keyToksAll []))) = _
  rw [keyToksAll]; rfl
theorem pdT_inj {a b : Tm} (h : keyToks (pdT a) = keyToks (pdT b)) : a = b := by
  rw [pdT_toks, pdT_toks] at h
  obtain ⟨h1, h2⟩ := toks_inj (List.cons.inj h).2
  have : a.2 = b.2 := by simpa using h2
  exact Prod.ext h1 this
theorem leT_trans (a b c : Tm) (h1 : leT a b = true) (h2 : leT b c = true) : leT a c = true := (PySem.W.sortLe_total (PyProof.Rows.listOrd PyProof.Rows.itemOrd) false fun t => keyToks (pdT t)).trans a b c h1 h2
theorem leT_total (a b : Tm) : (leT a b || leT b a) = true := by
  rcases (PySem.W.sortLe_total (PyProof.Rows.listOrd PyProof.Rows.itemOrd) false fun t => keyToks (pdT t)).total a b with h | h
  · have h' : leT a b = true := h
    rw [h']; rfl
  · have h' : leT b a = true := h
    rw [h', Bool.or_true]
theorem leT_anti {a b : Tm} (h1 : leT a b = true) (h2 : leT b a = true) : a = b := by
  refine pdT_inj ?_
  have q1 : (!PyProof.Rows.lexLt PyProof.Rows.itemOrd (keyToks (pdT b)) (keyToks (pdT a))) = true := h1
  have q2 : (!PyProof.Rows.lexLt PyProof.Rows.itemOrd (keyToks (pdT a)) (keyToks (pdT b))) = true := h2
  exact PyProof.Rows.lex_total _ _ (by simpa using q2) (by simpa using q1)
def sortT (l : List Tm) : List Tm := l.mergeSort leT
theorem sortT_perm (l : List Tm) : (sortT l).Perm l := List.mergeSort_perm l _
theorem sortT_sorted (l : List Tm) : (sortT l).Pairwise fun a b => leT a b = true := List.pairwise_mergeSort leT_trans leT_total l
theorem sortT_uniq {l r : List Tm} (p : r.Perm l) (h : r.Pairwise fun a b => leT a b = true) : r = sortT l :=
  sorted_uniq (fun a b h1 h2 => leT_anti h1 h2) (p.trans (sortT_perm l).symm) h (sortT_sorted l)
theorem sortT_congr {l r : List Tm} (p : l.Perm r) : sortT l = sortT r := sortT_uniq ((sortT_perm l).trans p) (sortT_sorted l)
end FM

set_option Elab.async false
set_option linter.all false
set_option maxRecDepth 100000
/-! sums brought together -/
namespace FM
open PySem L2
/-- the number for places, of terms in any order -/
def co (ts : List Tm) (k : List Int) : Int := (ts.map fun t => if srt t.1 = k then sg t.1 * t.2 else 0).sum
theorem co_nil (k : List Int) : co [] k = 0 := rfl
theorem co_cons (t : Tm) (ts : List Tm) (k : List Int) : co (t :: ts) k = (if srt t.1 = k then sg t.1 * t.2 else 0) + co ts k := List.sum_cons
theorem co_append (a b : List Tm) (k : List Int) : co (a ++ b) k = co a k + co b k := by
  unfold co
  rw [List.map_append, List.sum_append]
/-- what the dict holds -/
def stepD (d : List Tm) (t : Tm) : List Tm := putD d (srt t.1) ((getD' d (srt t.1)).getD 0 + sg t.1 * t.2)
def dic (ts : List Tm) : List Tm := ts.foldl stepD []
def gath (ts : List Tm) : List Tm := sortT ((dic ts).filter fun t => decide (t.2 ≠ 0))
theorem putD_keys (d : List Tm) (k : List Int) (n : Int) : (putD d k n).map (·.1) = if k ∈ d.map (·.1) then d.map (·.1) else d.map (·.1) ++ [k] := by
  unfold putD
  have e : (d.any fun p => decide (p.1 = k)) = decide (k ∈ d.map (·.1)) := by
    induction d with
    | nil => rfl
    | cons p d ih =>
      rw [List.any_cons, ih, List.map_cons, ← Bool.decide_or]
      refine decide_eq_decide.mpr ?_
      rw [List.mem_cons]
      exact ⟨fun h => h.imp Eq.symm id, fun h => h.imp Eq.symm id⟩
  rw [e]
  by_cases h : k ∈ d.map (·.1)
  · rw [if_pos (decide_eq_true h), if_pos h, List.map_map]
    refine List.map_congr_left fun p _ => ?_
    show (if p.1 = k then (p.1, n) else p).1 = p.1
    split <;> rfl
  · rw [if_neg (by rw [decide_eq_true_eq]; exact h), if_neg h, List.map_append]; rfl
theorem putD_nodup {d : List Tm} {k : List Int} {n : Int} (h : (d.map (·.1)).Nodup) : ((putD d k n).map (·.1)).Nodup := by
  rw [putD_keys]
  split
  · exact h
  · rename_i hk
    refine List.nodup_append.mpr ⟨h, (by simp), fun a ha b hb e => ?_⟩
    rw [List.mem_singleton.mp hb] at e
    subst e
    exact hk ha
theorem getD_cons (p : Tm) (d : List Tm) (k : List Int) : getD' (p :: d) k = if p.1 = k then some p.2 else getD' d k := by
  unfold getD'
  by_cases h : p.1 = k
  · rw [List.find?_cons_of_pos (by simpa using h), if_pos h]; rfl
  · rw [List.find?_cons_of_neg (by simpa using h), if_neg h]
theorem getD_none {d : List Tm} {k : List Int} (h : k ∉ d.map (·.1)) : getD' d k = none := by
  induction d with
  | nil => rfl
  | cons p d ih =>
    rw [getD_cons, if_neg (fun e => h (by rw [List.map_cons, e]; exact List.mem_cons_self)), ih (fun z => h (List.mem_cons_of_mem _ z))]
theorem getD_append (a b : List Tm) (k : List Int) : getD' (a ++ b) k = match getD' a k with | some v => some v | none => getD' b k := by
  induction a with
  | nil => rfl
  | cons p a ih =>
    rw [List.cons_append, getD_cons, getD_cons, ih]
    split <;> rfl
theorem getD_map (d : List Tm) (k j : List Int) (n : Int) : getD' (d.map fun p => if p.1 = k then (p.1, n) else p) j = (getD' d j).map fun v => if j = k then n else v := by
  induction d with
  | nil => rfl
  | cons p d ih =>
    rw [List.map_cons, getD_cons, getD_cons, ih]
    by_cases h : p.1 = k
    · rw [if_pos h]
      by_cases e : p.1 = j
      · rw [if_pos e, if_pos e, Option.map_some, if_pos (e ▸ h)]
      · rw [if_neg e, if_neg e]
    · rw [if_neg h]
      by_cases e : p.1 = j
      · rw [if_pos e, if_pos e, Option.map_some, if_neg (fun z => h (e.trans z))]
      · rw [if_neg e, if_neg e]
theorem getD_isSome {d : List Tm} {k : List Int} : k ∈ d.map (·.1) ↔ ∃ v, getD' d k = some v := by
  constructor
  · intro h
    induction d with
    | nil => cases h
    | cons p d ih =>
      rw [getD_cons]
      by_cases e : p.1 = k
      · rw [if_pos e]; exact ⟨_, rfl⟩
      · rw [if_neg e]
        rcases List.mem_cons.mp (by rw [← List.map_cons]; exact h) with z | z
        · exact absurd z.symm e
        · exact ih z
  · rintro ⟨v, h⟩
    by_cases z : k ∈ d.map (·.1)
    · exact z
    · rw [getD_none z] at h; cases h
theorem getD_put (d : List Tm) (k j : List Int) (n : Int) : getD' (putD d k n) j = if j = k then some n else getD' d j := by
  unfold putD
  have e : (d.any fun p => decide (p.1 = k)) = true ↔ k ∈ d.map (·.1) := by
    rw [List.any_eq_true]
    constructor
    · rintro ⟨p, hp, h⟩
      exact List.mem_map.mpr ⟨p, hp, of_decide_eq_true h⟩
    · intro h
      obtain ⟨p, hp, e⟩ := List.mem_map.mp h
      exact ⟨p, hp, decide_eq_true e⟩
  split
  · rename_i h
    rw [getD_map]
    obtain ⟨v, hv⟩ := getD_isSome.mp (e.mp h)
    by_cases z : j = k
    · subst z
      rw [hv, if_pos rfl, Option.map_some, if_pos rfl]
    · rw [if_neg z]
      cases getD' d j with
      | none => rfl
      | some w => rw [Option.map_some, if_neg z]
  · rename_i h
    have hk : k ∉ d.map (·.1) := fun z => h (e.mpr z)
    rw [getD_append]
    by_cases z : j = k
    · subst z
      rw [getD_none hk, if_pos rfl, getD_cons, if_pos rfl]
    · rw [if_neg z]
      cases getD' d j with
      | none => rw [getD_cons, if_neg (fun q => z q.symm)]; rfl
      | some w => rfl
theorem dic_snoc (ts : List Tm) (t : Tm) : dic (ts ++ [t]) = stepD (dic ts) t := by
  unfold dic
  rw [List.foldl_append]; rfl
theorem snoc_ind {α : Type} {P : List α → Prop} (h0 : P []) (hs : ∀ l a, P l → P (l ++ [a])) : ∀ l, P l := by
  intro l
  rw [← List.reverse_reverse l]
  generalize l.reverse = r
  induction r with
  | nil => exact h0
  | cons a r ih => rw [List.reverse_cons]; exact hs _ _ ih
theorem dic_nodup : ∀ ts : List Tm, ((dic ts).map (·.1)).Nodup := snoc_ind List.nodup_nil fun l a h => by
  rw [dic_snoc]; exact putD_nodup h
theorem dic_get (k : List Int) : ∀ ts : List Tm, (getD' (dic ts) k).getD 0 = co ts k := snoc_ind rfl fun l t h => by
  rw [dic_snoc, co_append, ← h]
  unfold stepD
  rw [getD_put]
  rw [show co [t] k = if srt t.1 = k then sg t.1 * t.2 else 0 by rw [co_cons, co_nil, Int.add_zero]]
  by_cases e : k = srt t.1
  · rw [if_pos e, if_pos e.symm, e]; rfl
  · rw [if_neg e, if_neg (fun z => e z.symm), Int.add_zero]
theorem dic_len : ∀ ts : List Tm, (dic ts).length ≤ ts.length := snoc_ind (Nat.le_refl _) fun l t h => by
  rw [dic_snoc, List.length_append]
  have : (stepD (dic l) t).length ≤ (dic l).length + 1 := by
    unfold stepD putD
    split
    · rw [List.length_map]; omega
    · simp
  simp only [List.length_singleton]
  omega
theorem dic_keys : ∀ ts : List Tm, ∀ p ∈ dic ts, ∃ t ∈ ts, p.1 = srt t.1 := snoc_ind (fun p h => by cases h) fun l t h p hp => by
  rw [dic_snoc] at hp
  have hk : p.1 ∈ (stepD (dic l) t).map (·.1) := List.mem_map_of_mem hp
  unfold stepD at hk
  rw [putD_keys] at hk
  have old : p.1 ∈ (dic l).map (·.1) → ∃ t' ∈ l ++ [t], p.1 = srt t'.1 := fun z => by
    obtain ⟨q, hq, e⟩ := List.mem_map.mp z
    obtain ⟨t', ht', e'⟩ := h q hq
    exact ⟨t', List.mem_append_left _ ht', e.symm.trans e'⟩
  split at hk
  · exact old hk
  · rcases List.mem_append.mp hk with z | z
    · exact old z
    · exact ⟨t, by simp, List.mem_singleton.mp z⟩
theorem get_mem {d : List Tm} (nd : (d.map (·.1)).Nodup) {p : Tm} : p ∈ d ↔ getD' d p.1 = some p.2 := by
  induction d with
  | nil => exact ⟨(fun h => by cases h), (fun h => by cases h)⟩
  | cons q d ih =>
    rw [List.map_cons] at nd
    obtain ⟨n1, n2⟩ := List.nodup_cons.mp nd
    rw [getD_cons, List.mem_cons]
    by_cases e : q.1 = p.1
    · rw [if_pos e]
      constructor
      · rintro (z | z)
        · rw [z]
        · exact absurd (by rw [e]; exact List.mem_map_of_mem z) n1
      · intro z
        exact .inl (Prod.ext e.symm (Option.some.inj z).symm)
    · rw [if_neg e]
      constructor
      · rintro (z | z)
        · exact absurd (by rw [z]) e
        · exact (ih n2).mp z
      · exact fun z => .inr ((ih n2).mpr z)
theorem nodup_of_map {α β : Type} {f : α → β} : ∀ {l : List α}, (l.map f).Nodup → l.Nodup
  | [], _ => List.nodup_nil
  | a :: l, h => by
    rw [List.map_cons] at h
    obtain ⟨h1, h2⟩ := List.nodup_cons.mp h
    exact List.nodup_cons.mpr ⟨fun z => h1 (List.mem_map_of_mem z), nodup_of_map h2⟩
theorem perm_of_mem {α : Type} {a b : List α} (ha : a.Nodup) (hb : b.Nodup) (h : ∀ x, x ∈ a ↔ x ∈ b) : a.Perm b := (List.perm_ext_iff_of_nodup ha hb).mpr h
theorem fil_mem {ts : List Tm} {p : Tm} : p ∈ (dic ts).filter (fun t => decide (t.2 ≠ 0)) ↔ p.2 ≠ 0 ∧ co ts p.1 = p.2 := by
  rw [List.mem_filter, get_mem (dic_nodup ts), decide_eq_true_eq]
  constructor
  · rintro ⟨h1, h2⟩
    refine ⟨h2, ?_⟩
    rw [← dic_get, h1]; rfl
  · rintro ⟨h1, h2⟩
    refine ⟨?_, h1⟩
    rw [← dic_get] at h2
    cases e : getD' (dic ts) p.1 with
    | none => rw [e] at h2; exact absurd h2.symm h1
    | some v => rw [e] at h2; exact congrArg some h2
theorem gath_mem {ts : List Tm} {p : Tm} : p ∈ gath ts ↔ p.2 ≠ 0 ∧ co ts p.1 = p.2 := by
  unfold gath
  rw [(sortT_perm _).mem_iff, fil_mem]
theorem fil_nodup (ts : List Tm) : ((dic ts).filter fun t => decide (t.2 ≠ 0)).Nodup := (nodup_of_map (dic_nodup ts)).filter _
theorem gath_congr {ts us : List Tm} (h : ∀ k, co ts k = co us k) : gath ts = gath us := by
  refine sortT_congr (perm_of_mem (fil_nodup ts) (fil_nodup us) fun p => ?_)
  rw [fil_mem, fil_mem, h]
/-! ### sums of one form -/
structure Can (s : List Tm) : Prop where
  asc : ∀ t ∈ s, Asc t.1
  nz : ∀ t ∈ s, t.2 ≠ 0
  nd : (s.map (·.1)).Nodup
  ord : s.Pairwise fun a b => leT a b = true
theorem co_mem {s : List Tm} (ha : ∀ t ∈ s, Asc t.1) (nd : (s.map (·.1)).Nodup) {p : Tm} (hp : p ∈ s) : co s p.1 = p.2 := by
  induction s with
  | nil => cases hp
  | cons q s ih =>
    rw [List.map_cons] at nd
    obtain ⟨n1, n2⟩ := List.nodup_cons.mp nd
    have aq := ha q List.mem_cons_self
    have zero : ∀ {s : List Tm} {k : List Int}, (∀ t ∈ s, Asc t.1) → k ∉ s.map (·.1) → co s k = 0 := by
      intro s k
      induction s with
      | nil => intro _ _; rfl
      | cons r s ih =>
        intro h1 h2
        rw [co_cons, ih (fun t ht => h1 t (List.mem_cons_of_mem _ ht)) (fun z => h2 (List.mem_cons_of_mem _ z)), srt_asc (h1 r List.mem_cons_self), if_neg (fun z => h2 (by rw [List.map_cons, z]; exact List.mem_cons_self))]; rfl
    rw [co_cons, srt_asc aq, sg_asc aq, Int.one_mul]
    rcases List.mem_cons.mp hp with rfl | hp
    · rw [if_pos rfl, zero (fun t ht => ha t (List.mem_cons_of_mem _ ht)) n1, Int.add_zero]
    · have : q.1 ≠ p.1 := fun z => n1 (by rw [z]; exact List.mem_map_of_mem hp)
      rw [if_neg this, Int.zero_add]
      exact ih (fun t ht => ha t (List.mem_cons_of_mem _ ht)) n2 hp
theorem co_out {s : List Tm} {k : List Int} (ha : ∀ t ∈ s, Asc t.1) (hk : k ∉ s.map (·.1)) : co s k = 0 := by
  induction s with
  | nil => rfl
  | cons r s ih =>
    rw [co_cons, ih (fun t ht => ha t (List.mem_cons_of_mem _ ht)) (fun z => hk (List.mem_cons_of_mem _ z)), srt_asc (ha r List.mem_cons_self), if_neg (fun z => hk (by rw [List.map_cons, z]; exact List.mem_cons_self))]; rfl
theorem Can.mem {s : List Tm} (h : Can s) {p : Tm} : p ∈ s ↔ p.2 ≠ 0 ∧ co s p.1 = p.2 := by
  constructor
  · intro hp
    exact ⟨h.nz p hp, co_mem h.asc h.nd hp⟩
  · rintro ⟨h1, h2⟩
    by_cases hk : p.1 ∈ s.map (·.1)
    · obtain ⟨q, hq, e⟩ := List.mem_map.mp hk
      have := co_mem h.asc h.nd hq
      rw [e, h2] at this
      rw [show p = q from Prod.ext e.symm this]
      exact hq
    · rw [co_out h.asc hk] at h2
      exact absurd h2.symm h1
theorem Can.gath {s : List Tm} (h : Can s) : gath s = s := by
  refine (sortT_uniq (perm_of_mem (nodup_of_map h.nd) (fil_nodup s) fun p => ?_) h.ord).symm
  rw [fil_mem, h.mem]
theorem Can.ext {s r : List Tm} (hs : Can s) (hr : Can r) (h : ∀ k, co s k = co r k) : s = r := by
  rw [← hs.gath, ← hr.gath]; exact gath_congr h
theorem co_nodup {ts : List Tm} {k : List Int} (h : co ts k ≠ 0) : Asc k := by
  induction ts with
  | nil => exact absurd rfl h
  | cons t ts ih =>
    rw [co_cons] at h
    by_cases e : srt t.1 = k
    · by_cases nd : t.1.Nodup
      · rw [← e]; exact srt_nodup nd
      · rw [if_pos e, sg_zero nd, Int.zero_mul, Int.zero_add] at h
        exact ih h
    · rw [if_neg e, Int.zero_add] at h
      exact ih h
theorem gath_can (ts : List Tm) : Can (gath ts) where
  asc t ht := by
    obtain ⟨h1, h2⟩ := gath_mem.mp ht
    exact co_nodup (ts := ts) (by rw [h2]; exact h1)
  nz t ht := (gath_mem.mp ht).1
  nd := by
    unfold FM.gath
    have p := (sortT_perm ((dic ts).filter fun t => decide (t.2 ≠ 0))).map (·.1)
    rw [p.nodup_iff]
    have : ∀ {d : List Tm} (f : Tm → Bool), (d.map (·.1)).Nodup → ((d.filter f).map (·.1)).Nodup := by
      intro d f
      induction d with
      | nil => exact id
      | cons q d ih =>
        intro h
        rw [List.map_cons] at h
        obtain ⟨h1, h2⟩ := List.nodup_cons.mp h
        by_cases z : f q = true
        · rw [List.filter_cons_of_pos z, List.map_cons]
          refine List.nodup_cons.mpr ⟨fun y => h1 ?_, ih h2⟩
          obtain ⟨r, hr, e⟩ := List.mem_map.mp y
          rw [← e]
          exact List.mem_map_of_mem (List.mem_filter.mp hr).1
        · rw [List.filter_cons_of_neg z]
          exact ih h2
    exact this _ (dic_nodup ts)
  ord := sortT_sorted _
theorem co_gath (ts : List Tm) (k : List Int) : co (gath ts) k = co ts k := by
  by_cases h : co ts k = 0
  · rw [h]
    by_cases z : co (gath ts) k = 0
    · exact z
    · have := ((gath_can ts).mem (p := (k, co (gath ts) k))).mpr ⟨z, rfl⟩
      obtain ⟨_, h2⟩ := gath_mem.mp this
      exact absurd (h2.symm.trans h) z
  · have := gath_mem.mpr (show ((k, co ts k) : Tm).2 ≠ 0 ∧ co ts k = co ts k from ⟨h, rfl⟩)
    exact ((gath_can ts).mem.mp this).2
theorem gath_len (ts : List Tm) : (gath ts).length ≤ ts.length := by
  unfold gath
  rw [(sortT_perm _).length_eq]
  exact Nat.le_trans (List.length_filter_le _ _) (dic_len ts)
theorem gath_places {ts : List Tm} {p : Tm} (h : p ∈ gath ts) : ∃ t ∈ ts, p.1 = srt t.1 := by
  unfold gath at h
  rw [(sortT_perm _).mem_iff] at h
  exact dic_keys ts p (List.mem_filter.mp h).1
theorem gath_size {ts : List Tm} {n : Nat} (h : ∀ t ∈ ts, t.1.length = n) : ∀ p ∈ gath ts, p.1.length = n := fun p hp => by
  obtain ⟨t, ht, e⟩ := gath_places hp
  rw [e, srt_len]
  exact h t ht
theorem gath_all {ts : List Tm} {P : Int → Prop} (h : ∀ t ∈ ts, ∀ w ∈ t.1, P w) : ∀ p ∈ gath ts, ∀ w ∈ p.1, P w := fun p hp w hw => by
  obtain ⟨t, ht, e⟩ := gath_places hp
  rw [e] at hw
  exact h t ht w ((srt_perm t.1).mem_iff.mp hw)
end FM

set_option Elab.async false
set_option linter.all false
set_option maxRecDepth 100000
/-! plain laws of the small language -/
namespace FM
open PySem L2
/-- the fields of the program's errors -/
def ci0 : Str → Option (List Str) := fun C => if C = "BadRows" then some ["place"] else if C = "NoBox" then some ["left", "right"] else none
abbrev LI (ns : List Int) : D := .lst (ns.map D.int)
def sgL (l : List (Str × Sig)) : Str → Option Sig := fun f => l.lookup f
def omL (l : List (Str × FSem)) : Str → FSem := fun f => (l.lookup f).getD fun _ _ _ => False
theorem LI_snoc (acc : List Int) (v : Int) : acc.map D.int ++ [D.int v] = (acc ++ [v]).map D.int := by simp
theorem intsOf_map : ∀ ns : List Int, intsOf (ns.map D.int) = some ns
  | [] => rfl
  | n :: ns => by
    show (intsOf (ns.map D.int)).map (n :: ·) = some (n :: ns)
    rw [intsOf_map ns]; rfl
theorem blsOf_map : ∀ ns : List Bool, blsOf (ns.map D.bl) = some ns
  | [] => rfl
  | n :: ns => by
    show (blsOf (ns.map D.bl)).map (n :: ·) = some (n :: ns)
    rw [blsOf_map ns]; rfl
theorem imms_map : ∀ ns : List Int, D.imms (ns.map D.int) = true
  | [] => rfl
  | n :: ns => imms_map ns
/-! ### what == tells -/
class Dt (α : Type) [DecidableEq α] where
  d : α → D
  pd : α → PyData
  py : ∀ a, (d a).py = some (pd a)
  ok : ∀ a, (pd a).canLay0 = true
  eqv : ∀ a b, PyData.eqv (pd a) (pd b) = decide (a = b)
  dep : Nat
  dep_le : ∀ a, (pd a).depth ≤ dep
structure Tp (α : Type) where
  l : List α
  deriving DecidableEq
instance : Dt Int where
  d := .int
  pd := .int
  py _ := rfl
  ok _ := rfl
  eqv a b := by rw [PyData.eqv]; exact (Bool.beq_eq_decide_eq a b)
  dep := 0
  dep_le _ := Nat.le_refl _
instance : Dt Bool where
  d := .bl
  pd := .bool
  py _ := rfl
  ok _ := rfl
  eqv a b := by rw [PyData.eqv]; exact (Bool.beq_eq_decide_eq a b)
  dep := 0
  dep_le _ := Nat.le_refl _
section
variable {α β : Type} [DecidableEq α] [Dt α] [DecidableEq β] [Dt β]
theorem dt_pys : ∀ xs : List α, D.pys (xs.map Dt.d) = some (xs.map Dt.pd)
  | [] => rfl
  | x :: xs => by
    show (match (Dt.d x).py, D.pys (xs.map Dt.d) with | some x, some xs => some (x :: xs) | _, _ => none) = _
    rw [dt_pys xs, Dt.py x]; rfl
theorem dt_ok : ∀ xs : List α, PyData.canLayAll0 (xs.map Dt.pd) = true
  | [] => rfl
  | x :: xs => by
    show ((Dt.pd x).canLay0 && PyData.canLayAll0 (xs.map Dt.pd)) = true
    rw [dt_ok xs, Dt.ok x]; rfl
theorem dt_eqv : ∀ xs ys : List α, PyData.eqvAll (xs.map Dt.pd) (ys.map Dt.pd) = decide (xs = ys)
  | [], [] => by simp [PyData.eqvAll]
  | [], _ :: _ => by simp [PyData.eqvAll]
  | _ :: _, [] => by simp [PyData.eqvAll]
  | x :: xs, y :: ys => by
    rw [List.map_cons, List.map_cons, PyData.eqvAll, dt_eqv xs ys, Dt.eqv x y, ← Bool.decide_and]
    exact decide_eq_decide.mpr (by rw [List.cons.injEq])
theorem dt_dep : ∀ xs : List α, PyData.depthAll (xs.map Dt.pd) ≤ Dt.dep α
  | [] => Nat.zero_le _
  | x :: xs => by
    show max (PyData.depth (Dt.pd x)) (PyData.depthAll (xs.map Dt.pd)) ≤ _
    exact Nat.max_le.mpr ⟨Dt.dep_le x, dt_dep xs⟩
instance : Dt (List α) where
  d xs := .lst (xs.map Dt.d)
  pd xs := .list (xs.map Dt.pd)
  py xs := by
    show (D.pys (xs.map Dt.d)).map PyData.list = _
    rw [dt_pys]; rfl
  ok xs := dt_ok xs
  eqv xs ys := by rw [PyData.eqv]; exact dt_eqv xs ys
  dep := Dt.dep α + 1
  dep_le xs := Nat.succ_le_succ (dt_dep xs)
instance : Dt (Tp α) where
  d xs := .tup (xs.l.map Dt.d)
  pd xs := .tuple (xs.l.map Dt.pd)
  py xs := by
    show (D.pys (xs.l.map Dt.d)).map PyData.tuple = _
    rw [dt_pys]; rfl
  ok xs := dt_ok xs.l
  eqv xs ys := by
    rw [PyData.eqv, dt_eqv xs.l ys.l]
    cases xs; cases ys
    exact decide_eq_decide.mpr (by rw [Tp.mk.injEq])
  dep := Dt.dep α + 1
  dep_le xs := Nat.succ_le_succ (dt_dep xs.l)
instance : Dt (α × β) where
  d x := .tup [Dt.d x.1, Dt.d x.2]
  pd x := .tuple [Dt.pd x.1, Dt.pd x.2]
  py x := by
    show (D.pys [Dt.d x.1, Dt.d x.2]).map PyData.tuple = _
    unfold D.pys D.pys D.pys
    rw [Dt.py x.1, Dt.py x.2]; rfl
  ok x := by
    show ((Dt.pd x.1).canLay0 && ((Dt.pd x.2).canLay0 && true)) = true
    rw [Dt.ok x.1, Dt.ok x.2]; rfl
  eqv x y := by
    rw [PyData.eqv, PyData.eqvAll, PyData.eqvAll, PyData.eqvAll, Dt.eqv x.1 y.1, Dt.eqv x.2 y.2, Bool.and_true, ← Bool.decide_and]
    exact decide_eq_decide.mpr (by rw [Prod.ext_iff])
  dep := max (Dt.dep α) (Dt.dep β) + 1
  dep_le x := by
    show max (PyData.depth (Dt.pd x.1)) (max (PyData.depth (Dt.pd x.2)) 0) + 1 ≤ _
    have h1 := Dt.dep_le x.1
    have h2 := Dt.dep_le x.2
    omega
theorem eqD_dt {a b : α} (h : Dt.dep α ≤ 64) {K : Bool → Prop} : eqD (Dt.d a) (Dt.d b) K ↔ K (decide (a = b)) := by
  unfold eqD
  rw [Dt.py a, Dt.py b]
  show ((SeqAt.shaped (Dt.pd a) = true ∧ SeqAt.shaped (Dt.pd b) = true) ∧ K (PyData.eqv (Dt.pd a) (Dt.pd b))) ↔ _
  rw [Dt.eqv]
  have sh : ∀ x : α, SeqAt.shaped (Dt.pd x) = true := fun x => by
    unfold SeqAt.shaped
    rw [Dt.ok x, decide_eq_true (Nat.le_trans (Dt.dep_le x) h)]; rfl
  exact ⟨fun q => q.2, fun q => ⟨⟨sh a, sh b⟩, q⟩⟩
end
theorem eqd_int {i j : Int} {K : Bool → Prop} : eqD (.int i) (.int j) K ↔ K (decide (i = j)) := eqD_dt (α := Int) (by decide)
theorem eqd_bl {i j : Bool} {K : Bool → Prop} : eqD (.bl i) (.bl j) K ↔ K (decide (i = j)) := eqD_dt (α := Bool) (by decide)
theorem eqd_LI {i j : List Int} {K : Bool → Prop} : eqD (.lst (i.map D.int)) (.lst (j.map D.int)) K ↔ K (decide (i = j)) := eqD_dt (α := List Int) (by decide)
theorem eqd_LL {i j : List (List Int)} {K : Bool → Prop} : eqD (.lst (i.map fun x => .lst (x.map D.int))) (.lst (j.map fun x => .lst (x.map D.int))) K ↔ K (decide (i = j)) := eqD_dt (α := List (List Int)) (by decide)
/-! ### walks -/
theorem goLC_fm {tg : Tg} {cond : Dat → (Bool → Prop) → Prop} {elt : Dat → (D → Prop) → Prop} {ρ : Dat} {f : D → Option D} : ∀ {ds : Dat} {K : Dat → Prop},
    (∀ d ∈ ds, ∀ (R : D → Prop) (S : Prop), (match f d with | some y => R y | none => S) → tgD tg d ρ fun ρ' => cond ρ' fun b => if b = true then elt ρ' R else S) → K (ds.filterMap f) → goLC tg cond elt ρ ds K
  | [], K, _, h => h
  | d :: ds, K, hf, h => by
    refine hf d List.mem_cons_self _ _ ?_
    cases e : f d with
    | some y =>
      rw [List.filterMap_cons_some e] at h
      exact goLC_fm (fun x hx => hf x (List.mem_cons_of_mem _ hx)) h
    | none =>
      rw [List.filterMap_cons_none e] at h
      exact goLC_fm (fun x hx => hf x (List.mem_cons_of_mem _ hx)) h
theorem goLC_map {tg : Tg} {cond : Dat → (Bool → Prop) → Prop} {elt : Dat → (D → Prop) → Prop} {ρ : Dat} {f : D → D} {ds : Dat} {K : Dat → Prop}
    (hf : ∀ d ∈ ds, ∀ (R : D → Prop) (S : Prop), R (f d) → tgD tg d ρ fun ρ' => cond ρ' fun b => if b = true then elt ρ' R else S) (h : K (ds.map f)) : goLC tg cond elt ρ ds K :=
  goLC_fm (f := fun d => some (f d)) (fun d hd R S q => hf d hd R S q) (by rw [List.filterMap_eq_map']; exact h)
/-- a comprehension over what stands for xs -/
theorem goLC_of {α : Type} {tg : Tg} {cond : Dat → (Bool → Prop) → Prop} {elt : Dat → (D → Prop) → Prop} {ρ : Dat} {g : α → D} {f : α → D} {xs : List α} {K : Dat → Prop}
    (hf : ∀ x ∈ xs, ∀ (R : D → Prop) (S : Prop), R (f x) → tgD tg (g x) ρ fun ρ' => cond ρ' fun b => if b = true then elt ρ' R else S) (h : K (xs.map f)) : goLC tg cond elt ρ (xs.map g) K := by
  induction xs generalizing K with
  | nil => exact h
  | cons x xs ih => exact hf x List.mem_cons_self _ _ (ih (fun y hy => hf y (List.mem_cons_of_mem _ hy)) h)
/-- .. with a test -/
theorem goLC_ofF {α : Type} {tg : Tg} {cond : Dat → (Bool → Prop) → Prop} {elt : Dat → (D → Prop) → Prop} {ρ : Dat} {g : α → D} {p : α → Bool} {f : α → D} {xs : List α} {K : Dat → Prop}
    (hf : ∀ x ∈ xs, ∀ (R : D → Prop) (S : Prop), (if p x = true then R (f x) else S) → tgD tg (g x) ρ fun ρ' => cond ρ' fun b => if b = true then elt ρ' R else S) (h : K ((xs.filter p).map f)) : goLC tg cond elt ρ (xs.map g) K := by
  induction xs generalizing K with
  | nil => exact h
  | cons x xs ih =>
    refine hf x List.mem_cons_self _ _ ?_
    cases e : p x with
    | true =>
      rw [List.filter_cons_of_pos e] at h
      rw [if_pos rfl]
      exact ih (fun y hy => hf y (List.mem_cons_of_mem _ hy)) h
    | false =>
      rw [List.filter_cons_of_neg (by rw [e]; exact Bool.false_ne_true)] at h
      rw [if_neg Bool.false_ne_true]
      exact ih (fun y hy => hf y (List.mem_cons_of_mem _ hy)) h
theorem goFor_inv {tg : Tg} {body : Dat → Po → Prop} {P : Po} {ds : Dat} {ρ : Dat} (I : Nat → Dat → Prop) (h0 : I 0 ρ)
    (hs : ∀ i d ρ (Pn : Dat → Prop), ds[i]? = some d → I i ρ → (∀ ρ', I (i + 1) ρ' → Pn ρ') → tgD tg d ρ fun ρ1 => body ρ1 { P with nx := Pn }) (he : ∀ ρ, I ds.length ρ → P.nx ρ) : goFor tg body P ds ρ := by
  have key : ∀ (ds' : Dat) (i : Nat) (ρ : Dat), ds.drop i = ds' → i ≤ ds.length → I i ρ → goFor tg body P ds' ρ := by
    intro ds'
    induction ds' with
    | nil =>
      intro i ρ e hi h
      have : i = ds.length := by
        have := congrArg List.length e
        rw [List.length_drop, List.length_nil] at this
        omega
      subst this
      exact he ρ h
    | cons d ds' ih =>
      intro i ρ e hi h
      have hlt : i < ds.length := by
        have := congrArg List.length e
        rw [List.length_drop, List.length_cons] at this
        omega
      rw [List.drop_eq_getElem_cons hlt] at e
      injection e with e1 e2
      subst e1
      exact hs i _ ρ _ (List.getElem?_eq_getElem hlt) h fun ρ' h' => ih (i + 1) ρ' e2 hlt h'
  exact key ds 0 ρ rfl (Nat.zero_le _) h0
/-- a walk over what stands for xs, the state by what was walked -/
theorem goFor_of {α : Type} {tg : Tg} {body : Dat → Po → Prop} {P : Po} {g : α → D} {xs : List α} {ρ : Dat} (I : List α → Dat → Prop) (h0 : I [] ρ)
    (hs : ∀ ys x zs ρ (Pn : Dat → Prop), xs = ys ++ x :: zs → I ys ρ → (∀ ρ', I (ys ++ [x]) ρ' → Pn ρ') → tgD tg (g x) ρ fun ρ1 => body ρ1 { P with nx := Pn }) (he : ∀ ρ, I xs ρ → P.nx ρ) : goFor tg body P (xs.map g) ρ := by
  have key : ∀ (zs ys : List α) (ρ : Dat), xs = ys ++ zs → I ys ρ → goFor tg body P (zs.map g) ρ := by
    intro zs
    induction zs with
    | nil =>
      intro ys ρ e h
      rw [List.append_nil] at e
      subst e
      exact he ρ h
    | cons z zs ih =>
      intro ys ρ e h
      exact hs ys z zs ρ _ e h fun ρ' h' => ih (ys ++ [z]) ρ' (by rw [List.append_assoc]; exact e) h'
  exact key xs [] ρ rfl h0
/-! ### numbers -/
theorem divok_small {i j : Int} (h0 : j ≠ 0) (h : j.natAbs < 2 ^ 64) : DivOk i j := by
  refine ⟨h0, ?_⟩
  unfold Builtin.divisionGoesByPylong
  have hl : j.natAbs.log2 < 64 := by
    have : j.natAbs ≠ 0 := by omega
    exact (Nat.log2_lt this).mpr h
  dsimp only
  have : ((if j == 0 then 0 else j.natAbs.log2 / 30 + 1) > 300) = False := by
    simp only [gt_iff_lt, eq_iff_iff, iff_false, Nat.not_lt]
    split <;> omega
  simp only [this, decide_false, Bool.false_and]
theorem bits64 {i : Int} (h : i.natAbs < 2 ^ 64) : Builtin.Int.intBits i ≤ 64 := by
  unfold Builtin.Int.intBits
  split
  · omega
  · rename_i h0
    have : i.natAbs ≠ 0 := by
      intro z
      exact h0 (by simp only [beq_iff_eq]; omega)
    have := (Nat.log2_lt this).mpr h
    omega
theorem mulok_l {i j : Int} (h : i.natAbs < 2 ^ 64) : IntMulOk i j := IntMulOk.of_left (bits64 h)
theorem mulok_r {i j : Int} (h : j.natAbs < 2 ^ 64) : IntMulOk i j := IntMulOk.of_right (bits64 h)
theorem bits_le {i : Int} {n : Nat} (h : i.natAbs < 2 ^ n) : Builtin.Int.intBits i ≤ n := by
  unfold Builtin.Int.intBits
  split
  · omega
  · rename_i h0
    have : i.natAbs ≠ 0 := by
      intro z
      exact h0 (by simp only [beq_iff_eq]; omega)
    have := (Nat.log2_lt this).mpr h
    omega
theorem mulok_bits {i j : Int} {n m : Nat} (hi : i.natAbs < 2 ^ n) (hj : j.natAbs < 2 ^ m) (h : n + m ≤ 2 ^ 20) : IntMulOk i j := by
  have h1 := bits_le hi
  have h2 := bits_le hj
  unfold IntMulOk
  have e : Builtin.Int.intTooBig ((Builtin.Int.intBits i + Builtin.Int.intBits j : Nat) : Int) = false := by
    unfold Builtin.Int.intTooBig
    refine decide_eq_false ?_
    have : (2 : Int) ^ 20 ≤ bitsLine := by decide
    omega
  have e' : Builtin.Int.intTooBig ((Builtin.Int.intBits i : Int) + (Builtin.Int.intBits j : Int)) = false := by
    rw [← Int.natCast_add]; exact e
  rw [show Builtin.Int.intTooBig (Builtin.Int.intBits i + Builtin.Int.intBits j) = false from e']
  simp
/-! ### tables of defs -/
def Df (P : Program) (w : World) (K : PySem.W.Frag) (mg : Str → Option Value) (base : Heap) (c : Cfg) (Ω : Str → FSem) (f : Str) (s : Sig) (k : Nat) : Prop :=
  ∃ a fd ps, mg f = some (.ref a) ∧ PySem.W.keepIn K (.ref a) = true ∧ Binds K fd ps [] ∧ FnOk P w K mg base (L2.CX P w) k a fd ps (spOf c (Ω f) s)
section
variable {P : Program} {w : World} {K : PySem.W.Frag} {mg : Str → Option Value} {base : Heap} {c : Cfg} {Ω : Str → FSem}
theorem Tab.none' {k : Nat} : Tab P w K mg base c Ω (sgL []) k := fun _ _ h => nomatch h
theorem Df.cons {f : Str} {s : Sig} {j k : Nat} {l : List (Str × Sig)} (h : Df P w K mg base c Ω f s j) (hjk : j ≤ k) (T : Tab P w K mg base c Ω (sgL l) k) : Tab P w K mg base c Ω (sgL ((f, s) :: l)) k := by
  intro g t hg
  have hg' : (if g == f then some s else l.lookup g) = some t := by
    have e : sgL ((f, s) :: l) g = (if g == f then some s else l.lookup g) := by
      show List.lookup g ((f, s) :: l) = _
      rw [List.lookup_cons]
      cases g == f <;> rfl
    rw [← e]; exact hg
  by_cases hf : (g == f) = true
  · rw [if_pos hf] at hg'
    cases hg'
    obtain rfl := beq_iff_eq.mp hf
    obtain ⟨a, fd, ps, h1, h2, h3, h4⟩ := h
    exact ⟨a, fd, ps, j, hjk, h1, h2, h3, h4⟩
  · rw [if_neg hf] at hg'
    exact T g t hg'
theorem def_ok2 {ic rz : Str → Bool} {tr : Bool} {gl : Str → Option Int} (W0 : World0 P w K mg base c ic rz tr gl) {sg : Str → Option Sig} {k : Nat} (T : Tab P w K mg base c Ω sg k)
    {x qual : Str} {st : Stmt} {f : Addr} {fd : FuncData} {N ps : List Str} (F : Fun K x qual st f fd) (S : FnScope N ps (defScope st)) {is : IS} {sem : FSem} (hps : ps.length ≤ N.length)
    (hm : matchS (mcOf N (defScope st) ic rz tr gl) is (defBody st) = true) (ht : (tyS ⟨sg, none⟩ .deep is (start0 ps.length N.length)).isSome = true)
    (hs : ∀ ds Q X, ds.length = ps.length → sem ds Q X → wpS Ω ci0 is (holesTo ds N.length) (poOf Q X)) : FnOk P w K mg base (L2.CX P w) (k + 1) f fd ps (spOf c sem ⟨ps.length, .deep⟩) := by
  obtain ⟨o, ho⟩ := Option.isSome_iff_exists.mp ht
  exact def_ok W0 T F S hps hm (fun z => nomatch z) ho hs
/-- what the law is called with, by what is known of the script -/
def spLaw (pre : List Int → Prop) (K : PySem.W.Frag) : Sp := fun vs H Q _ => ∃ (a : Addr) (ns : List Int), vs = [.ref a] ∧ SqL K H a (ns.map V.int) ∧ pre ns ∧ ∀ H', Q (.bl true) H'
theorem spLaw_sp {sem : FSem} {pre : List Int → Prop} (h : ∀ ns, pre ns → sem [LI ns] (fun d => d = .bl true) (fun _ => False)) {cls : Str → Option Addr} : ∀ vs H Q E, spLaw pre K vs H Q E → spOf ⟨K, cls⟩ sem ⟨1, .deep⟩ vs H Q E := by
  rintro vs H Q E ⟨a, ns, rfl, hS, hp, hq⟩
  exact law_sp (c := ⟨K, cls⟩) hS (h ns hp) hq
end
theorem noCX {P : Program} {w : World} {H : Hp} {s : Shared} {e : Value} {s' : Shared} {o : List Env} (h : L2.CX P w o H s (fun _ _ _ => False) e s') : False := by
  obtain ⟨_, _, _, _, _, _, _, _, _, _, _, _, z⟩ := h
  exact z
theorem getD_int (xs : List Int) (n : Nat) (h : n < xs.length) : (xs.map D.int)[n]? = some (.int (xs.getD n 0)) := by
  rw [List.getElem?_map, List.getElem?_eq_getElem h, List.getD_eq_getElem?_getD, List.getElem?_eq_getElem h]; rfl
theorem item_LI {xs : List Int} {k : Int} {K : D → Prop} (h0 : 0 ≤ k) (h1 : k < xs.length) (h : K (.int (xs.getD k.toNat 0))) : itemD (.lst (xs.map D.int)) k K := by
  have e : atI (xs.map D.int) k = some (.int (xs.getD k.toNat 0)) := by
    unfold atI
    have : ixN (xs.map D.int).length k = some k.toNat := by
      unfold ixN
      rw [if_pos h0, if_pos (by rw [List.length_map]; exact h1)]
    rw [this]
    exact getD_int xs k.toNat (by omega)
  show (match atI (xs.map D.int) k with | some d => d.live ∧ K d | none => False)
  rw [e]
  exact ⟨trivial, h⟩
theorem zip_LI (xs ys : List Int) : List.zipWith (fun p q => D.tup [p, q]) (xs.map D.int) (ys.map D.int) = (xs.zip ys).map fun p => D.tup [.int p.1, .int p.2] := by
  rw [List.zipWith_map, List.zip, List.map_zipWith]
theorem rep_int1 (n : Nat) (i : Int) : (List.replicate n [D.int i]).flatten = (List.replicate n i).map D.int := by
  induction n with
  | zero => rfl
  | succ n ih => rw [List.replicate_succ, List.flatten_cons, ih, List.replicate_succ]; rfl
/-! ### what is known of a shape -/
section
variable {K : D → Prop} {KI : Int → Prop} {KB : Bool → Prop} {KL : Dat → Prop} {i j : Int} {b : Bool} {xs : Dat} {x y : D} {t : Str} {C : Str} {ns : List Str}
theorem s_asI : asI (.int i) KI = KI i := rfl
theorem s_asB : asB (.bl b) KB = KB b := rfl
theorem s_asL : asL (.lst xs) KL = KL xs := rfl
theorem s_asT : asT (.tup xs) KL = KL xs := rfl
theorem s_asS {KS : Str → Prop} : asS (.str t) KS = KS t := rfl
theorem s_lvI : (D.int i).live = True := rfl
theorem s_lvB : (D.bl b).live = True := rfl
theorem s_lvL : (D.lst xs).live = True := rfl
theorem s_lvT : (D.tup xs).live = True := rfl
theorem s_lvN : D.non.live = True := rfl
theorem s_lvS : (D.str t).live = True := rfl
theorem s_lvX : (D.exc C ns xs).live = True := rfl
theorem s_add : binD .add (.int i) (.int j) K = K (.int (i + j)) := rfl
theorem s_sub : binD .sub (.int i) (.int j) K = K (.int (i - j)) := rfl
theorem s_mul : binD .mul (.int i) (.int j) K = (IntMulOk i j ∧ K (.int (i * j))) := rfl
theorem s_fdiv : binD .fdiv (.int i) (.int j) K = (DivOk i j ∧ K (.int (i.fdiv j))) := rfl
theorem s_mod : binD .mod (.int i) (.int j) K = (j ≠ 0 ∧ K (.int (i.fmod j))) := rfl
theorem s_pow : binD .pow (.int i) (.int j) K = ((0 ≤ j ∧ j ≤ 1000 ∧ i.natAbs < 2 ^ 64) ∧ K (.int (i ^ j.toNat))) := rfl
theorem s_lenL : bltD .len [.lst xs] K = K (.int xs.length) := rfl
theorem s_lenT : bltD .len [.tup xs] K = K (.int xs.length) := rfl
theorem s_abs : bltD .abs [.int i] K = K (.int (if i < 0 then -i else i)) := rfl
theorem s_min : bltD .min2 [.int i, .int j] K = K (.int (if j < i then j else i)) := rfl
theorem s_max : bltD .max2 [.int i, .int j] K = K (.int (if j > i then j else i)) := rfl
theorem s_sum {ns : List Int} : bltD .sum [.lst (ns.map D.int)] K = K (.int ns.sum) := by
  show (match intsOf (ns.map D.int) with | some ns => K (.int ns.sum) | none => False) = _
  rw [intsOf_map]
theorem s_any {ns : List Bool} : bltD .any [.lst (ns.map D.bl)] K = K (.bl (ns.any id)) := by
  show (match blsOf (ns.map D.bl) with | some ns => K (.bl (ns.any id)) | none => False) = _
  rw [blsOf_map]
theorem s_all {ns : List Bool} : bltD .all [.lst (ns.map D.bl)] K = K (.bl (ns.all id)) := by
  show (match blsOf (ns.map D.bl) with | some ns => K (.bl (ns.all id)) | none => False) = _
  rw [blsOf_map]
theorem s_intI : bltD .toInt [.int i] K = K (.int i) := rfl
theorem s_intB : bltD .toInt [.bl b] K = K (.int (if b then 1 else 0)) := rfl
theorem s_list {im : Bool} : bltD (.toList im) [.lst xs] K = ((im = true → D.imms xs = true) ∧ K (.lst xs)) := rfl
theorem s_listT {im : Bool} : bltD (.toList im) [.tup xs] K = ((im = true → D.imms xs = true) ∧ K (.lst xs)) := rfl
theorem s_tupL {im : Bool} : bltD (.toTup im) [.lst xs] K = ((im = true → D.imms xs = true) ∧ K (.tup xs)) := rfl
theorem s_tupT {im : Bool} : bltD (.toTup im) [.tup xs] K = ((im = true → D.imms xs = true) ∧ K (.tup xs)) := rfl
theorem s_one {k : Nat} {ρ : Dat} : tgD (.one k) x ρ KL = KL (ρ.set k x) := rfl
theorem s_many {is : List Nat} {ρ : Dat} : tgD (.many is) (.tup xs) ρ KL = (xs.length = is.length ∧ KL (setAll is xs ρ)) := rfl
theorem s_set {k : Nat} {is : List Nat} {ρ : Dat} : setAll (k :: is) (x :: xs) ρ = setAll is xs (ρ.set k x) := rfl
theorem s_set0 {ρ : Dat} : setAll [] xs ρ = ρ := by cases xs <;> rfl
theorem s_imI : (D.int i).imm = true := rfl
theorem s_imB : (D.bl b).imm = true := rfl
theorem s_imN : D.non.imm = true := rfl
theorem s_imT : (D.tup xs).imm = D.imms xs := rfl
theorem s_isI (b : Bool) : asO b (.int i) = fun K => if b = true then K none else K (some i) := rfl
theorem s_i1 : isiD .int (.int i) = some true := rfl
theorem s_i2 : isiD .bool (.int i) = some false := rfl
theorem s_i3 : isiD .int (.bl b) = some true := rfl
theorem s_i4 : isiD .bool (.bl b) = some true := rfl
theorem s_i5 : isiD .list (.lst xs) = some true := rfl
theorem s_i6 : isiD .tuple (.tup xs) = some true := rfl
theorem s_nx {Q X : D → Prop} {ρ : Dat} : (poOf Q X).nx ρ = Q .non := rfl
theorem s_rt {Q X : D → Prop} {d : D} : (poOf Q X).rt d = Q d := rfl
theorem s_ex {Q X : D → Prop} {ρ : Dat} {d : D} : (poOf Q X).ex d ρ = X d := rfl
end
/-! ### isinstance's answers, by what the written part says -/
theorem kit_ref {K : PySem.W.Frag} {t : Value} {C : Addr} {b : Bool} (hd : PySem.W.hasDictIn K C = true) (ht : PySem.W.typeIn K (.ref C) = some (.type "type")) (hs : PySem.W.subIn K t (.ref C) = some b) (hb : b = true ∨ t ≠ .ref C) : PySem.W.kitOne K t (.ref C) = some b := by
  unfold PySem.W.kitOne
  split
  · rename_i h
    rcases hb with hb | hb
    · rw [hb]
    · exact absurd (beq_iff_eq.mp h) hb
  · obtain ⟨cd, hc, _⟩ := PySem.W.any_some hd
    show (if ((PySem.W.clsIn K C).isSome && PySem.W.typeIn K (.ref C) == some (.type "type")) = true then PySem.W.subIn K t (.ref C) else none) = some b
    rw [if_pos (by rw [hc, ht]; rfl)]
    exact hs
theorem sub_none {K : PySem.W.Frag} {C : Addr} : PySem.W.subIn K (.type "NoneType") (.ref C) = some false := by
  show (fastBuiltinMro "NoneType").map (·.contains (.ref C)) = some false
  rw [show fastBuiltinMro "NoneType" = some [.type "NoneType", .type "object"] by decide +kernel]
  rfl
theorem kit_val {K : PySem.W.Frag} {C : Addr} {b : Bool} (hs : PySem.W.subIn K (.ref C) (.type "ValueError") = some b) : PySem.W.kitOne K (.ref C) (.type "ValueError") = some b := by
  unfold PySem.W.kitOne
  rw [if_neg (by rw [beq_iff_eq]; exact fun z => nomatch z)]
  show (if PySem.W.kitMeta "ValueError" = true then PySem.W.subIn K (.ref C) (.type "ValueError") else none) = some b
  rw [if_pos (by decide +kernel)]
  exact hs
end FM

set_option Elab.async false
set_option linter.all false
set_option maxRecDepth 100000
/-! more plain laws of the small language -/
namespace FM
open PySem L2
abbrev tupI (ps : List Int) : D := .tup (ps.map D.int)
abbrev tmD (t : Tm) : D := .tup [tupI t.1, .int t.2]
abbrev tms (ts : List Tm) : D := .lst (ts.map tmD)
section
variable {K : D → Prop} {KI : Int → Prop} {KB : Bool → Prop} {KL : Dat → Prop} {i j : Int} {b : Bool} {xs : Dat} {x y : D} {t : Str} {C : Str} {ns : List Int}
theorem s_asD {kvs : List Tm} {KD : List Tm → Prop} : asD (.dct kvs) KD = KD kvs := rfl
theorem s_keyI {KD : List Int → Prop} : keyD (.tup (ns.map D.int)) KD = KD ns := by
  show (match intsOf (ns.map D.int) with | some ns => KD ns | none => False) = _
  rw [intsOf_map]
theorem s_optS {α : Type} {a : α} {KA : α → Prop} : optG (some a) KA = KA a := rfl
theorem s_seqL : seqD (.lst xs) KL = KL xs := rfl
theorem s_seqT : seqD (.tup xs) KL = KL xs := rfl
theorem s_lvD {kvs : List Tm} : (D.dct kvs).live = True := rfl
theorem s_isi7 : isiD .list .non = some false := rfl
theorem s_isN1 : isNon .non = true := rfl
theorem s_isN2 : isNon (.lst xs) = false := rfl
theorem s_isN3 : isNon (.tup xs) = false := rfl
theorem s_isN4 : isNon (.int i) = false := rfl
theorem s_isN5 {ns : List Str} : isNon (.exc C ns xs) = false := rfl
theorem s_niln : isNil .nil = true := rfl
end
def okS (s : Str) : Bool := s.cps.all fun n => decide (n < 0x110000)
theorem shaped_str {i : Str} (h : okS i = true) : SeqAt.shaped (.str i) = true := by
  unfold SeqAt.shaped
  rw [show PyData.canLay0 (.str i) = true from h]; rfl
theorem eqd_str {i j : Str} {K : Bool → Prop} (h1 : okS i = true) (h2 : okS j = true) : eqD (.str i) (.str j) K ↔ K (decide (i = j)) := by
  show ((SeqAt.shaped (.str i) = true ∧ SeqAt.shaped (.str j) = true) ∧ K (PyData.eqv (.str i) (.str j))) ↔ _
  rw [PyData.eqv, Bool.beq_eq_decide_eq]
  exact ⟨fun q => q.2, fun q => ⟨⟨shaped_str h1, shaped_str h2⟩, q⟩⟩
theorem eqd_LB {i j : List Bool} {K : Bool → Prop} : eqD (.lst (i.map D.bl)) (.lst (j.map D.bl)) K ↔ K (decide (i = j)) := eqD_dt (α := List Bool) (by decide)
/-- terms as data of one form -/
def tmT (t : Tm) : Tp Int × Int := (⟨t.1⟩, t.2)
theorem tmT_inj {a b : Tm} : tmT a = tmT b ↔ a = b := by
  constructor
  · intro h
    obtain ⟨h1, h2⟩ := Prod.mk.inj h
    exact Prod.ext (Tp.mk.inj h1) h2
  · rintro rfl; rfl
theorem tmD_dt (t : Tm) : tmD t = Dt.d (tmT t) := rfl
theorem tms_dt (ts : List Tm) : tms ts = Dt.d (ts.map tmT) := by
  show D.lst (ts.map tmD) = .lst ((ts.map tmT).map Dt.d)
  rw [List.map_map]; rfl
theorem map_inj' {α β : Type} {f : α → β} (hf : ∀ a b, f a = f b ↔ a = b) : ∀ {l r : List α}, l.map f = r.map f ↔ l = r
  | [], [] => by simp
  | [], _ :: _ => by simp
  | _ :: _, [] => by simp
  | a :: l, b :: r => by
    rw [List.map_cons, List.map_cons, List.cons.injEq, List.cons.injEq, hf, map_inj' hf]
theorem eqd_tm {a b : Tm} {K : Bool → Prop} : eqD (tmD a) (tmD b) K ↔ K (decide (a = b)) := by
  rw [tmD_dt, tmD_dt, eqD_dt (α := Tp Int × Int) (by decide)]
  rw [show decide (tmT a = tmT b) = decide (a = b) from decide_eq_decide.mpr tmT_inj]
theorem eqd_tms {a b : List Tm} {K : Bool → Prop} : eqD (tms a) (tms b) K ↔ K (decide (a = b)) := by
  rw [tms_dt, tms_dt, eqD_dt (α := List (Tp Int × Int)) (by decide)]
  rw [show decide (a.map tmT = b.map tmT) = decide (a = b) from decide_eq_decide.mpr (map_inj' fun a b => tmT_inj)]
theorem eqd_tup {a b : List Int} {K : Bool → Prop} : eqD (tupI a) (tupI b) K ↔ K (decide (a = b)) := by
  show eqD (Dt.d (⟨a⟩ : Tp Int)) (Dt.d (⟨b⟩ : Tp Int)) K ↔ _
  rw [eqD_dt (α := Tp Int) (by decide)]
  rw [show decide ((⟨a⟩ : Tp Int) = ⟨b⟩) = decide (a = b) from decide_eq_decide.mpr (by rw [Tp.mk.injEq])]
/-! ### sorted -/
theorem srt_dt {α : Type} [DecidableEq α] [Dt α] (xs : List α) : D.pys (xs.map Dt.d) = some (xs.map Dt.pd) ∧ (ordL (·.2) ((xs.map Dt.d).zip (xs.map Dt.pd))).map (·.1) = (xs.mergeSort (PySem.W.dataLe false Dt.pd)).map Dt.d := by
  refine ⟨dt_pys xs, ?_⟩
  have e : (xs.map Dt.d).zip (xs.map Dt.pd) = xs.map fun x => ((Dt.d x : D), (Dt.pd x : PyData)) := by
    induction xs with
    | nil => rfl
    | cons x xs ih => rw [List.map_cons, List.map_cons, List.zip_cons_cons, ih]; rfl
  unfold ordL
  rw [e, ← List.map_mergeSort (r := PySem.W.dataLe false Dt.pd) (f := fun x => ((Dt.d x : D), (Dt.pd x : PyData))) (fun a _ b _ => rfl), List.map_map]
  rfl

theorem ints_imms (ps : List Int) : D.imms (ps.map D.int) = true := imms_map ps
theorem ordOk_ints (ps : List Int) : SrtOk (ps.map PyData.int) := by
  refine ⟨fun d hd d' hd' => ?_, .inr fun d hd => ?_, fun d hd => ?_⟩
  · obtain ⟨a, _, rfl⟩ := List.mem_map.mp hd
    obtain ⟨b, _, rfl⟩ := List.mem_map.mp hd'
    rfl
  · obtain ⟨a, _, rfl⟩ := List.mem_map.mp hd
    exact ⟨(fun z => nomatch z), (fun _ z => nomatch z)⟩
  · obtain ⟨a, _, rfl⟩ := List.mem_map.mp hd
    show (0 : Nat) ≤ 32
    decide
theorem leI (a b : Int) : PySem.W.dataLe false (fun x : Int => PyData.int x) a b = decide (a ≤ b) := by
  show (!PyProof.Rows.lexLt PyProof.Rows.itemOrd [Sum.inl b] [Sum.inl a]) = decide (a ≤ b)
  by_cases h : b < a
  · have : PyProof.Rows.lexLt PyProof.Rows.itemOrd [Sum.inl b] [Sum.inl a] = true := PyProof.Rows.lex_true.mpr (.inl (decide_eq_true h))
    rw [this, decide_eq_false (by omega)]; rfl
  · have : PyProof.Rows.lexLt PyProof.Rows.itemOrd [Sum.inl b] [Sum.inl a] = false := PyProof.Rows.lex_false.mpr ⟨decide_eq_false h, .inr rfl⟩
    rw [this, decide_eq_true (by omega)]; rfl
/-- sorted of ints -/
theorem use_srtI {ps : List Int} {K : D → Prop} (h : K (LI (srt ps))) : D.imms (ps.map D.int) = true ∧ optG (D.pys (ps.map D.int)) fun q => SrtOk q ∧ K (.lst ((ordL (·.2) ((ps.map D.int).zip q)).map (·.1))) := by
  refine ⟨ints_imms ps, ?_⟩
  obtain ⟨h1, h2⟩ := srt_dt ps
  rw [show D.pys (ps.map D.int) = some (ps.map PyData.int) from h1]
  refine ⟨ordOk_ints ps, ?_⟩
  rw [show (ordL (·.2) ((ps.map D.int).zip (ps.map PyData.int))).map (·.1) = _ from h2]
  have e : ps.mergeSort (PySem.W.dataLe false Dt.pd) = srt ps := by
    unfold srt
    congr 1
    funext a b
    exact leI a b
  rw [e]
  exact h
theorem s_srtI {ps : List Int} {K : D → Prop} (h : K (LI (srt ps))) : srtD (.tup (ps.map D.int)) K := use_srtI h
theorem tms_imms : ∀ ts : List Tm, D.imms (ts.map tmD) = true
  | [] => rfl
  | t :: ts => by
    show ((D.imms (t.1.map D.int) && (true && true)) && D.imms (ts.map tmD)) = true
    rw [tms_imms ts, imms_map]; rfl
theorem ordOk_tms (ts : List Tm) : SrtOk (ts.map pdT) := by
  have al : ∀ a b : List Int, PySem.W.alikeAll (a.map PyData.int) (b.map PyData.int) = true := by
    intro a
    induction a with
    | nil => intro b; cases b <;> rfl
    | cons x a ih =>
      intro b
      cases b with
      | nil => rfl
      | cons y b =>
        show (true && PySem.W.alikeAll (a.map PyData.int) (b.map PyData.int)) = true
        rw [ih b]; rfl
  have dp : ∀ a : List Int, PyData.depthAll (a.map PyData.int) = 0 := by
    intro a
    induction a with
    | nil => rfl
    | cons x a ih =>
      show max 0 (PyData.depthAll (a.map PyData.int)) = 0
      rw [ih]; rfl
  refine ⟨fun d hd d' hd' => ?_, .inl fun d hd => ?_, fun d hd => ?_⟩
  · obtain ⟨a, _, rfl⟩ := List.mem_map.mp hd
    obtain ⟨b, _, rfl⟩ := List.mem_map.mp hd'
    show (PySem.W.alikeAll (a.1.map PyData.int) (b.1.map PyData.int) && (true && true)) = true
    rw [al]; rfl
  · obtain ⟨a, _, rfl⟩ := List.mem_map.mp hd
    exact ⟨_, _, rfl⟩
  · obtain ⟨a, _, rfl⟩ := List.mem_map.mp hd
    show max (PyData.depthAll (a.1.map PyData.int) + 1) (max 0 0) + 1 ≤ 32
    rw [dp]
    decide
/-- sorted of terms -/
theorem use_srtT {ts : List Tm} {K : D → Prop} (h : K (tms (sortT ts))) : D.imms (ts.map tmD) = true ∧ optG (D.pys (ts.map tmD)) fun q => SrtOk q ∧ K (.lst ((ordL (·.2) ((ts.map tmD).zip q)).map (·.1))) := by
  refine ⟨tms_imms ts, ?_⟩
  obtain ⟨h1, h2⟩ := srt_dt (ts.map tmT)
  rw [List.map_map, List.map_map] at h1
  rw [List.map_map, List.map_map] at h2
  rw [show D.pys (ts.map tmD) = some (ts.map pdT) from h1]
  refine ⟨ordOk_tms ts, ?_⟩
  rw [show (ordL (·.2) ((ts.map tmD).zip (ts.map pdT))).map (·.1) = _ from h2]
  have e : (ts.map tmT).mergeSort (PySem.W.dataLe false Dt.pd) = (sortT ts).map tmT := by
    unfold sortT
    rw [List.map_mergeSort (r := leT) (s := PySem.W.dataLe false Dt.pd) (f := tmT) (fun a _ b _ => rfl)]
  rw [e, List.map_map]
  exact h
theorem s_srtT {ts : List Tm} {K : D → Prop} (h : K (tms (sortT ts))) : srtD (tms ts) K := use_srtT h
/-! ### walks by number -/
theorem goFor_rng {tg : Tg} {body : Dat → Po → Prop} {P : Po} {n : Nat} {g : Nat → D} {ρ : Dat} (I : Nat → Dat → Prop) (h0 : I 0 ρ)
    (hs : ∀ k ρ (Pn : Dat → Prop), k < n → I k ρ → (∀ ρ', I (k + 1) ρ' → Pn ρ') → tgD tg (g k) ρ fun ρ1 => body ρ1 { P with nx := Pn }) (he : ∀ ρ, I n ρ → P.nx ρ) : goFor tg body P ((List.range n).map g) ρ := by
  refine goFor_inv (fun i ρ => I i ρ) h0 (fun i d ρ Pn hd hi hn => ?_) (fun ρ h => he ρ (by simpa using h))
  rw [List.getElem?_map] at hd
  obtain ⟨k, hk, rfl⟩ := Option.map_eq_some_iff.mp hd
  obtain ⟨hlt, e⟩ := List.getElem?_eq_some_iff.mp hk
  rw [List.getElem_range] at e
  subst e
  exact hs i ρ Pn (by simpa using hlt) hi hn
/-- downward -/
theorem goFor_rev {tg : Tg} {body : Dat → Po → Prop} {P : Po} {n : Nat} {g : Nat → D} {ρ : Dat} (I : Nat → Dat → Prop) (h0 : I n ρ)
    (hs : ∀ k ρ (Pn : Dat → Prop), k < n → I (k + 1) ρ → (∀ ρ', I k ρ' → Pn ρ') → tgD tg (g k) ρ fun ρ1 => body ρ1 { P with nx := Pn }) (he : ∀ ρ, I 0 ρ → P.nx ρ) : goFor tg body P ((List.range n).reverse.map g) ρ := by
  refine goFor_inv (fun i ρ => I (n - i) ρ) h0 (fun i d ρ Pn hd hi hn => ?_) (fun ρ h => he ρ (by simpa using h))
  rw [List.getElem?_map] at hd
  obtain ⟨k, hk, rfl⟩ := Option.map_eq_some_iff.mp hd
  obtain ⟨hlt, e⟩ := List.getElem?_eq_some_iff.mp hk
  have hl : i < n := by simpa using hlt
  rw [List.getElem_reverse, List.getElem_range, List.length_range] at e
  subst e
  refine hs (n - 1 - i) ρ Pn (by omega) (by rw [show n - 1 - i + 1 = n - i by omega]; exact hi) fun ρ' h => hn ρ' (by rw [show n - (i + 1) = n - 1 - i by omega]; exact h)
theorem item_tup {xs : List Int} {k : Int} {K : D → Prop} (h0 : 0 ≤ k) (h1 : k < xs.length) (h : K (.int (xs.getD k.toNat 0))) : itemD (.tup (xs.map D.int)) k K := by
  have e : atI (xs.map D.int) k = some (.int (xs.getD k.toNat 0)) := by
    unfold atI
    have : ixN (xs.map D.int).length k = some k.toNat := by
      unfold ixN
      rw [if_pos h0, if_pos (by rw [List.length_map]; exact h1)]
    rw [this]
    exact getD_int xs k.toNat (by omega)
  show (match atI (xs.map D.int) k with | some d => d.live ∧ K d | none => False)
  rw [e]
  exact ⟨trivial, h⟩
theorem ixN_nat {n k : Nat} (h : k < n) : ixN n (k : Int) = some k := by
  unfold ixN
  rw [if_pos (by omega), if_pos (by omega), Int.toNat_natCast]
theorem set_mapI (f : List Int) (n : Nat) (v : Int) : (f.map D.int).set n (.int v) = (f.set n v).map D.int := by
  rw [List.map_set]
theorem atI_0 {x : D} {xs : Dat} : atI (x :: xs) 0 = some x := by
  unfold atI ixN
  rw [if_pos (Int.le_refl 0), if_pos (by rw [List.length_cons]; omega)]; rfl
theorem atI_1 {x y : D} {xs : Dat} : atI (x :: y :: xs) 1 = some y := by
  unfold atI ixN
  rw [if_pos (by decide), if_pos (by rw [List.length_cons, List.length_cons]; omega)]; rfl
section
variable {K : D → Prop} {xs : Dat} {x y : D}
theorem s_t0 : itemD (.tup (x :: xs)) 0 K = (x.live ∧ K x) := by
  show (match atI (x :: xs) 0 with | some d => d.live ∧ K d | none => False) = _
  rw [atI_0]
theorem s_t1 : itemD (.tup (x :: y :: xs)) 1 K = (y.live ∧ K y) := by
  show (match atI (x :: y :: xs) 1 with | some d => d.live ∧ K d | none => False) = _
  rw [atI_1]
theorem s_l0 : itemD (.lst (x :: xs)) 0 K = (x.live ∧ K x) := by
  show (match atI (x :: xs) 0 with | some d => d.live ∧ K d | none => False) = _
  rw [atI_0]
theorem s_l1 : itemD (.lst (x :: y :: xs)) 1 K = (y.live ∧ K y) := by
  show (match atI (x :: y :: xs) 1 with | some d => d.live ∧ K d | none => False) = _
  rw [atI_1]
end
end FM

set_option Elab.async false
set_option linter.all false
set_option maxRecDepth 100000
namespace FM.Lib
open PySem L2
/-! ### _law_whole -/
def N__law_whole : List Str := ["found"]
def P__law_whole : List Str := ["found"]
def ir__law_whole : IS :=
  .cons (.ret (.and (.isi (.var 0) .int) (.not (.isi (.var 0) .bool)))) .nil
/-! ### _law_flags -/
def N__law_flags : List Str := ["caught", "flags"]
def P__law_flags : List Str := ["caught"]
def ir__law_flags : IS :=
  .cons (.set 1 (.lst (.cons (.isi (.var 0) (.own "NotAlike")) (.cons (.isi (.var 0) (.own "BadCount")) (.cons (.isi (.var 0) (.own "BadRows")) .nil))))) (.cons (.set 1 (.catL true (.bor 1) (.lst (.cons (.isi (.var 0) (.own "BadRow")) (.cons (.isi (.var 0) (.own "OtherSpace")) (.cons (.isi (.var 0) (.own "BadSize")) .nil)))))) (.cons (.set 1 (.catL true (.bor 1) (.lst (.cons (.isi (.var 0) (.own "BadPlaces")) (.cons (.isi (.var 0) (.own "ZeroSum")) (.cons (.isi (.var 0) (.own "NoBox")) .nil)))))) (.cons (.set 1 (.catL true (.bor 1) (.lst (.cons (.isi (.var 0) (.own "BadTable")) (.cons (.isi (.var 0) (.own "NoLine")) (.cons (.isi (.var 0) (.own "BadName")) .nil)))))) (.cons (.ret (.catL true (.bor 1) (.lst (.cons (.isi (.var 0) (.own "NoRow")) (.cons (.isi (.var 0) (.own "NoName")) .nil))))) .nil))))
/-! ### _law_only -/
def N__law_only : List Str := ["caught", "name", "names", "other"]
def P__law_only : List Str := ["caught", "name"]
def ir__law_only : IS :=
  .cons (.set 2 (.lst (.cons (.str "NotAlike") (.cons (.str "BadCount") (.cons (.str "BadRows") (.cons (.str "BadRow") (.cons (.str "OtherSpace") (.cons (.str "BadSize") (.cons (.str "BadPlaces") (.cons (.str "ZeroSum") .nil)))))))))) (.cons (.set 2 (.catL true (.bor 2) (.lst (.cons (.str "NoBox") (.cons (.str "BadTable") (.cons (.str "NoLine") (.cons (.str "BadName") (.cons (.str "NoRow") (.cons (.str "NoName") .nil))))))))) (.cons (.ret (.and (.isi (.var 0) (.own "ValueError")) (.eq false (.call "_law_flags" (.cons (.var 0) .nil)) (.lc [("other", 3)] (.eq false (.var 3) (.var 1)) (.one 3) (.bor 2) (.bl true))))) .nil))
/-! ### _law_cell -/
def N__law_cell : List Str := ["script", "k"]
def P__law_cell : List Str := ["script", "k"]
def ir__law_cell : IS :=
  .cons (.ite (.cmp .lt (.var 1) (.blt .len (.cons (.var 0) .nil))) (.cons (.ret (.bin .mod (.ix (.var 0) (.var 1)) (.int 2147483647))) .nil) .nil) (.cons (.ret (.int 0)) .nil)
/-! ### _law_thing -/
def N__law_thing : List Str := ["cell", "k", "many", "number"]
def P__law_thing : List Str := ["cell", "k", "many"]
def ir__law_thing : IS :=
  .cons (.set 3 (.bin .mod (.bin .add (.bin .add (.bin .mul (.bin .mod (.var 0) (.int 2147483647)) (.int 48271)) (.bin .mul (.bin .mul (.int 69621) (.var 1)) (.var 1))) (.bin .mul (.int 7) (.var 1))) (.int 2147483629))) (.cons (.set 3 (.bin .mod (.bin .mul (.bor 3) (.bor 3)) (.int 2147483587))) (.cons (.ret (.bin .mod (.bin .mod (.bin .mul (.bor 3) (.bin .add (.bor 3) (.int 48271))) (.int 2147483563)) (.var 2))) .nil))
/-! ### _law_same_sum -/
def N__law_same_sum : List Str := ["found", "due", "one", "other", "way"]
def P__law_same_sum : List Str := ["found", "due"]
def ir__law_same_sum : IS :=
  .cons (.ite (.or (.not (.isi (.var 0) .list)) (.eq true (.blt .len (.cons (.var 0) .nil)) (.blt .len (.cons (.var 1) .nil)))) (.cons (.ret (.bl false)) .nil) .nil) (.cons (.for (.many [2, 3]) (.zip (.var 0) (.var 1)) [.frz, .frz, .dead, .dead, .dead] (.cons (.ite (.or (.not (.isi (.var 2) .tuple)) (.or (.eq true (.blt .len (.cons (.var 2) .nil)) (.int 2)) (.not (.isi (.ix (.var 2) (.int 0)) .tuple)))) (.cons (.ret (.bl false)) .nil) .nil) (.cons (.ite (.or (.not (.call "_law_whole" (.cons (.ix (.var 2) (.int 1)) .nil))) (.or (.not (.blt .all (.cons (.lc [("way", 4)] (.call "_law_whole" (.cons (.var 4) .nil)) (.one 4) (.itT (.ix (.var 2) (.int 0))) (.bl true)) .nil))) (.eq true (.var 2) (.var 3)))) (.cons (.ret (.bl false)) .nil) .nil) .nil))) (.cons (.ret (.bl true)) .nil))
/-! ### _law_gathered -/
def N__law_gathered : List Str := ["terms", "counts", "places", "number", "sign", "j", "k", "rising"]
def P__law_gathered : List Str := ["terms"]
def ir__law_gathered : IS :=
  .cons (.set 1 .dnew) (.cons (.for (.many [2, 3]) (.var 0) [.frz, .deep, .dead, .dead, .dead, .dead, .dead, .dead] (.cons (.set 4 (.int 1)) (.cons (.for (.one 5) (.rng1 (.blt .len (.cons (.var 2) .nil))) [.frz, .deep, .frz, .frz, .deep, .dead, .dead, .dead] (.cons (.for (.one 6) (.rng1 (.var 5)) [.frz, .deep, .frz, .frz, .deep, .frz, .dead, .dead] (.cons (.ite (.cmp .gt (.ix (.var 2) (.var 6)) (.ix (.var 2) (.var 5))) (.cons (.set 4 (.bin .sub (.int 0) (.bor 4))) .nil) .nil) (.cons (.ite (.eq false (.ix (.var 2) (.var 6)) (.ix (.var 2) (.var 5))) (.cons (.set 3 (.int 0)) .nil) .nil) .nil))) .nil)) (.cons (.set 7 (.blt (.toTup true) (.cons (.srt (.var 2)) .nil))) (.cons (.dput 1 (.bor 7) (.bin .add (.get (.bor 1) (.bor 7) (.int 0)) (.bin .mul (.bor 4) (.var 3)))) .nil))))) (.cons (.ret (.srt (.lcI [("places", 2), ("number", 3)] (.tup (.cons (.imm (.var 2)) (.cons (.imm (.var 3)) .nil))) (.many [2, 3]) false 1 (.eq true (.var 3) (.int 0))))) .nil))
/-! ### ordered -/
def N_ordered : List Str := ["places", "found", "sign", "end", "k"]
def P_ordered : List Str := ["places"]
def ir_ordered : IS :=
  .cons (.set 1 (.blt (.toList true) (.cons (.var 0) .nil))) (.cons (.set 2 (.int 1)) (.cons (.for (.one 3) (.revR (.blt .len (.cons (.bor 1) .nil))) [.frz, .deep, .deep, .dead, .dead] (.cons (.for (.one 4) (.rng1 (.var 3)) [.frz, .deep, .deep, .frz, .dead] (.cons (.ite (.cmp .gt (.ix (.bor 1) (.var 4)) (.ix (.bor 1) (.bin .add (.var 4) (.int 1)))) (.cons (.swap 1 (.var 4) (.bin .add (.var 4) (.int 1)) (.tup (.cons (.imm (.ix (.bor 1) (.bin .add (.var 4) (.int 1)))) (.cons (.imm (.ix (.bor 1) (.var 4))) .nil)))) (.cons (.set 2 (.neg (.bor 2))) .nil)) .nil) .nil)) .nil)) (.cons (.for (.one 4) (.rng2 (.int 1) (.blt .len (.cons (.bor 1) .nil))) [.frz, .deep, .deep, .dead, .dead] (.cons (.ite (.eq false (.ix (.bor 1) (.bin .sub (.var 4) (.int 1))) (.ix (.bor 1) (.var 4))) (.cons (.set 2 (.int 0)) .nil) .nil) .nil)) (.cons (.ret (.tup (.cons (.imm (.bor 2)) (.cons (.blt (.toTup true) (.cons (.bor 1) .nil)) .nil)))) .nil))))
/-! ### summed -/
def N_summed : List Str := ["terms", "counts", "places", "number", "sign", "rising"]
def P_summed : List Str := ["terms"]
def ir_summed : IS :=
  .cons (.set 1 .dnew) (.cons (.for (.many [2, 3]) (.var 0) [.frz, .deep, .dead, .dead, .dead, .dead] (.cons (.unp [4, 5] (.call "ordered" (.cons (.var 2) .nil))) (.cons (.dput 1 (.bor 5) (.bin .add (.get (.bor 1) (.bor 5) (.int 0)) (.bin .mul (.bor 4) (.var 3)))) .nil))) (.cons (.ret (.srt (.lcI [("places", 2), ("number", 3)] (.tup (.cons (.imm (.var 2)) (.cons (.imm (.var 3)) .nil))) (.many [2, 3]) false 1 (.eq true (.var 3) (.int 0))))) .nil))
/-! ### _law_numbers -/
def N__law_numbers : List Str := ["script", "start", "many", "size", "found", "k", "number"]
def P__law_numbers : List Str := ["script", "start", "many", "size"]
def ir__law_numbers : IS :=
  .cons (.set 4 (.lst .nil)) (.cons (.for (.one 5) (.rng2 (.var 1) (.bin .add (.var 1) (.var 2))) [.frz, .frz, .frz, .frz, .deep, .dead, .dead] (.cons (.set 6 (.bin .add (.bin .mul (.var 5) (.var 5)) (.bin .mul (.int 3) (.var 5)))) (.cons (.ite (.cmp .lt (.var 5) (.blt .len (.cons (.var 0) .nil))) (.cons (.set 6 (.imm (.ix (.var 0) (.var 5)))) .nil) .nil) (.cons (.app 4 (.bin .sub (.bin .mod (.bor 6) (.bin .add (.bin .mul (.int 2) (.var 3)) (.int 1))) (.var 3))) .nil)))) (.cons (.ret (.mv 4)) .nil))
/-! ### _law_chosen -/
def N__law_chosen : List Str := ["cell", "far", "many", "size", "left", "found", "k"]
def P__law_chosen : List Str := ["cell", "far", "many", "size"]
def ir__law_chosen : IS :=
  .cons (.set 4 (.lrng1 (.var 2))) (.cons (.set 5 (.lst .nil)) (.cons (.for (.one 6) (.rng1 (.var 3)) [.frz, .frz, .frz, .frz, .deep, .deep, .dead] (.cons (.appPop 5 4 (.call "_law_thing" (.cons (.var 0) (.cons (.bin .add (.var 1) (.var 6)) (.cons (.blt .len (.cons (.bor 4) .nil)) .nil))))) .nil)) (.cons (.ret (.blt (.toTup true) (.cons (.bor 5) .nil))) .nil)))
/-! ### _law_digit_term -/
def N__law_digit_term : List Str := ["cell", "many", "size", "left", "found", "k", "place"]
def P__law_digit_term : List Str := ["cell", "many", "size"]
def ir__law_digit_term : IS :=
  .cons (.set 3 (.lrng1 (.var 1))) (.cons (.set 4 (.lst .nil)) (.cons (.for (.one 5) (.rng1 (.var 2)) [.frz, .frz, .frz, .deep, .deep, .dead, .dead] (.cons (.set 6 (.bin .mod (.var 0) (.blt .len (.cons (.bor 3) .nil)))) (.cons (.set 0 (.bin .fdiv (.var 0) (.blt .len (.cons (.bor 3) .nil)))) (.cons (.appPop 4 3 (.bor 6)) .nil)))) (.cons (.ret (.tup (.cons (.blt (.toTup true) (.cons (.bor 4) .nil)) (.cons (.bin .sub (.bin .mod (.var 0) (.bin .add (.bin .mul (.int 2) (.bin .pow (.int 10) (.int 9))) (.int 1))) (.bin .pow (.int 10) (.int 9))) .nil)))) .nil)))
/-! ### _law_drawn_sum -/
def N__law_drawn_sum : List Str := ["cells", "many", "size", "far", "terms", "cell", "number"]
def P__law_drawn_sum : List Str := ["cells", "many", "size", "far"]
def ir__law_drawn_sum : IS :=
  .cons (.set 4 (.lst .nil)) (.cons (.for (.one 5) (.var 0) [.frz, .frz, .frz, .frz, .deep, .dead, .dead] (.cons (.ite (.eq false (.bin .mod (.var 5) (.int 2)) (.int 1)) (.cons (.app 4 (.call "_law_digit_term" (.cons (.bin .fdiv (.var 5) (.int 2)) (.cons (.var 1) (.cons (.var 2) .nil))))) .nil) (.cons (.set 6 (.ix (.lst (.cons (.bin .sub (.bin .mod (.bin .fdiv (.var 5) (.int 8)) (.int 7)) (.int 3)) (.cons (.bin .mod (.bin .fdiv (.var 5) (.int 8)) (.bin .pow (.int 10) (.int 9))) (.cons (.bin .sub (.int 0) (.bin .mod (.bin .fdiv (.var 5) (.int 8)) (.bin .pow (.int 10) (.int 9)))) .nil)))) (.bin .mod (.bin .mod (.bin .fdiv (.var 5) (.int 2)) (.int 4)) (.int 3)))) (.cons (.app 4 (.tup (.cons (.call "_law_chosen" (.cons (.bin .fdiv (.var 5) (.int 2)) (.cons (.var 3) (.cons (.var 1) (.cons (.var 2) .nil))))) (.cons (.imm (.bor 6)) .nil)))) .nil))) .nil)) (.cons (.ret (.call "_law_gathered" (.cons (.bor 4) .nil))) .nil))
/-! ### added -/
def N_added : List Str := ["one", "other"]
def P_added : List Str := ["one", "other"]
def ir_added : IS :=
  .cons (.ret (.call "summed" (.cons (.catL true (.var 0) (.var 1)) .nil))) .nil
/-! ### taken -/
def N_taken : List Str := ["some", "many", "places", "number"]
def P_taken : List Str := ["some", "many"]
def ir_taken : IS :=
  .cons (.ret (.lc [("places", 2), ("number", 3)] (.tup (.cons (.imm (.var 2)) (.cons (.bin .mul (.var 3) (.var 1)) .nil))) (.many [2, 3]) (.var 0) (.eq true (.var 1) (.int 0)))) .nil
/-! ### product -/
def N_product : List Str := ["one", "other", "terms", "left", "first", "right", "second"]
def P_product : List Str := ["one", "other"]
def ir_product : IS :=
  .cons (.set 2 (.lst .nil)) (.cons (.for (.many [3, 4]) (.var 0) [.frz, .frz, .deep, .dead, .dead, .dead, .dead] (.cons (.for (.many [5, 6]) (.var 1) [.frz, .frz, .deep, .frz, .frz, .dead, .dead] (.cons (.app 2 (.tup (.cons (.catT (.var 3) (.var 5)) (.cons (.bin .mul (.var 4) (.var 6)) .nil)))) .nil)) .nil)) (.cons (.ret (.call "summed" (.cons (.bor 2) .nil))) .nil))
end FM.Lib

set_option Elab.async false
set_option linter.all false
set_option maxRecDepth 100000
namespace FM.Lib
open PySem L2
theorem map_int {α : Type} (f : α → Int) {xs : List α} : xs.map (fun x => D.int (f x)) = (xs.map f).map D.int := by rw [List.map_map]; rfl
theorem map_bl {α : Type} (f : α → Bool) {xs : List α} : xs.map (fun x => D.bl (f x)) = (xs.map f).map D.bl := by rw [List.map_map]; rfl
/-! ### what the laws ask with -/
def sem__law_whole : FSem := fun ds Q _ => ∃ i : Int, ds = [.int i] ∧ Q (.bl true)
theorem wp__law_whole {Ω : Str → FSem} : ∀ ds Q X, ds.length = P__law_whole.length → sem__law_whole ds Q X → wpS Ω ci0 ir__law_whole (holesTo ds N__law_whole.length) (poOf Q X) := by
  rintro ds Q X _ ⟨i, rfl, hq⟩
  show wpS Ω _ ir__law_whole [.int i] (poOf Q X)
  unfold ir__law_whole
  simp only [wpS, wpE, List.getD_cons_zero, List.getD_cons_succ, List.set_cons_zero, List.set_cons_succ, List.length_map, List.length_cons, List.length_nil, wipeD, cmpI, s_asI, s_asB, s_asL, s_asT, s_asS, s_lvI, s_lvB, s_lvL, s_lvT, s_lvN, s_lvS, s_lvX, s_add, s_sub, s_mul, s_fdiv, s_mod, s_pow, s_lenL, s_lenT, s_abs, s_min, s_max, s_sum, s_any, s_all, s_intI, s_intB, s_list, s_listT, s_tupL, s_tupT, s_one, s_many, s_set, s_set0, s_imI, s_imB, s_imN, s_imT, s_nx, s_rt, s_ex, s_t0, s_t1, s_l0, s_l1, s_asD, s_keyI, s_optS, s_seqL, s_seqT, s_lvD, s_isi7, s_isN1, s_isN2, s_isN3, s_isN4, s_isN5, isNil, asO, s_i1, s_i2, s_i3, s_i4, s_i5, s_i6, eqd_int, eqd_bl, true_and, and_true, decide_eq_true_eq, if_true, ite_true, ite_false, Bool.not_eq_true', decide_eq_false_iff_not, Bool.false_eq_true, Bool.not_false, Bool.not_true, not_true_eq_false, Bool.true_eq_false]
  exact hq
theorem isi_exc {C T : Str} (h : isExc C = true) : isiD (.own T) (.exc C [] []) = some (subX C T) := by
  show (if isExc C = true ∧ ([] : List Str) = [] then some (subX C T) else none) = _
  rw [if_pos ⟨h, rfl⟩]
def flagNames : List Str := ["NotAlike", "BadCount", "BadRows", "BadRow", "OtherSpace", "BadSize", "BadPlaces", "ZeroSum", "NoBox", "BadTable", "NoLine", "BadName", "NoRow", "NoName"]
def sem__law_flags : FSem := fun ds Q _ => ∃ C : Str, ds = [.exc C [] []] ∧ isExc C = true ∧ Q (.lst ((flagNames.map fun n => subX C n).map D.bl))
theorem wp__law_flags {Ω : Str → FSem} : ∀ ds Q X, ds.length = P__law_flags.length → sem__law_flags ds Q X → wpS Ω ci0 ir__law_flags (holesTo ds N__law_flags.length) (poOf Q X) := by
  rintro ds Q X _ ⟨C, rfl, hC, hq⟩
  show wpS Ω _ ir__law_flags [.exc C [] [], .hole] (poOf Q X)
  unfold ir__law_flags
  simp only [wpS, wpE, List.getD_cons_zero, List.getD_cons_succ, List.set_cons_zero, List.set_cons_succ, List.length_map, List.length_cons, List.length_nil, wipeD, cmpI, s_asI, s_asB, s_asL, s_asT, s_asS, s_lvI, s_lvB, s_lvL, s_lvT, s_lvN, s_lvS, s_lvX, s_add, s_sub, s_mul, s_fdiv, s_mod, s_pow, s_lenL, s_lenT, s_abs, s_min, s_max, s_sum, s_any, s_all, s_intI, s_intB, s_list, s_listT, s_tupL, s_tupT, s_one, s_many, s_set, s_set0, s_imI, s_imB, s_imN, s_imT, s_nx, s_rt, s_ex, s_t0, s_t1, s_l0, s_l1, s_asD, s_keyI, s_optS, s_seqL, s_seqT, s_lvD, s_isi7, s_isN1, s_isN2, s_isN3, s_isN4, s_isN5, isNil, asO, s_i1, s_i2, s_i3, s_i4, s_i5, s_i6, eqd_int, eqd_bl, true_and, and_true, decide_eq_true_eq, if_true, ite_true, ite_false, Bool.not_eq_true', decide_eq_false_iff_not, Bool.false_eq_true, Bool.not_false, Bool.not_true, not_true_eq_false, Bool.true_eq_false, isi_exc hC]
  exact ⟨⟨by decide, fun _ => ⟨rfl, rfl⟩⟩, ⟨by simp [LIM], fun _ => ⟨rfl, rfl⟩⟩, ⟨by simp [LIM], fun _ => ⟨rfl, rfl⟩⟩, ⟨by simp [LIM], fun _ => ⟨rfl, rfl⟩⟩, hq⟩
def sem__law_only : FSem := fun ds Q _ => ∃ C : Str, ds = [.exc C [] [], .str C] ∧ C ∈ flagNames ∧ Q (.bl true)
theorem flag_exc {C : Str} (h : C ∈ flagNames) : isExc C = true ∧ subX C "ValueError" = true ∧ okS C = true ∧ (flagNames.map fun n => subX C n) = flagNames.map fun n => decide (n = C) := by
  unfold flagNames at h
  simp only [List.mem_cons, List.not_mem_nil, or_false] at h
  rcases h with rfl | rfl | rfl | rfl | rfl | rfl | rfl | rfl | rfl | rfl | rfl | rfl | rfl | rfl <;> decide +kernel
theorem wp__law_only {Ω : Str → FSem} (h : Ω "_law_flags" = sem__law_flags) : ∀ ds Q X, ds.length = P__law_only.length → sem__law_only ds Q X → wpS Ω ci0 ir__law_only (holesTo ds N__law_only.length) (poOf Q X) := by
  rintro ds Q X _ ⟨C, rfl, hC, hq⟩
  show wpS Ω _ ir__law_only [.exc C [] [], .str C, .hole, .hole] (poOf Q X)
  obtain ⟨e1, e2, e3, e4⟩ := flag_exc hC
  unfold ir__law_only
  simp only [wpS, wpE, List.getD_cons_zero, List.getD_cons_succ, List.set_cons_zero, List.set_cons_succ, List.length_map, List.length_cons, List.length_nil, wipeD, cmpI, s_asI, s_asB, s_asL, s_asT, s_asS, s_lvI, s_lvB, s_lvL, s_lvT, s_lvN, s_lvS, s_lvX, s_add, s_sub, s_mul, s_fdiv, s_mod, s_pow, s_lenL, s_lenT, s_abs, s_min, s_max, s_sum, s_any, s_all, s_intI, s_intB, s_list, s_listT, s_tupL, s_tupT, s_one, s_many, s_set, s_set0, s_imI, s_imB, s_imN, s_imT, s_nx, s_rt, s_ex, s_t0, s_t1, s_l0, s_l1, s_asD, s_keyI, s_optS, s_seqL, s_seqT, s_lvD, s_isi7, s_isN1, s_isN2, s_isN3, s_isN4, s_isN5, isNil, asO, s_i1, s_i2, s_i3, s_i4, s_i5, s_i6, eqd_int, eqd_bl, true_and, and_true, decide_eq_true_eq, if_true, ite_true, ite_false, Bool.not_eq_true', decide_eq_false_iff_not, Bool.false_eq_true, Bool.not_false, Bool.not_true, not_true_eq_false, Bool.true_eq_false, isi_exc e1, e2, h]
  refine ⟨⟨by decide, fun _ => ⟨rfl, rfl⟩⟩, C, rfl, e1, by decide, ?_⟩
  refine goLC_of (g := D.str) (xs := flagNames) (f := fun n => .bl (decide (n = C))) (fun n hn R S r => by simp only [wpS, wpE, List.getD_cons_zero, List.getD_cons_succ, List.set_cons_zero, List.set_cons_succ, List.length_map, List.length_cons, List.length_nil, wipeD, cmpI, s_asI, s_asB, s_asL, s_asT, s_asS, s_lvI, s_lvB, s_lvL, s_lvT, s_lvN, s_lvS, s_lvX, s_add, s_sub, s_mul, s_fdiv, s_mod, s_pow, s_lenL, s_lenT, s_abs, s_min, s_max, s_sum, s_any, s_all, s_intI, s_intB, s_list, s_listT, s_tupL, s_tupT, s_one, s_many, s_set, s_set0, s_imI, s_imB, s_imN, s_imT, s_nx, s_rt, s_ex, s_t0, s_t1, s_l0, s_l1, s_asD, s_keyI, s_optS, s_seqL, s_seqT, s_lvD, s_isi7, s_isN1, s_isN2, s_isN3, s_isN4, s_isN5, isNil, asO, s_i1, s_i2, s_i3, s_i4, s_i5, s_i6, eqd_int, eqd_bl, true_and, and_true, decide_eq_true_eq, if_true, ite_true, ite_false, Bool.not_eq_true', decide_eq_false_iff_not, Bool.false_eq_true, Bool.not_false, Bool.not_true, not_true_eq_false, Bool.true_eq_false]; exact (eqd_str (flag_exc hn).2.2.1 e3).mpr r) ?_
  rw [map_bl (fun n => decide (n = C)), eqd_LB, e4, decide_eq_true rfl]
  exact hq
def lawCell (ns : List Int) (k : Nat) : Int := if k < ns.length then (ns.getD k 0).fmod 2147483647 else 0
def sem__law_cell : FSem := fun ds Q _ => ∃ (ns : List Int) (k : Nat), ds = [LI ns, .int k] ∧ Q (.int (lawCell ns k))
theorem wp__law_cell {Ω : Str → FSem} : ∀ ds Q X, ds.length = P__law_cell.length → sem__law_cell ds Q X → wpS Ω ci0 ir__law_cell (holesTo ds N__law_cell.length) (poOf Q X) := by
  rintro ds Q X _ ⟨ns, k, rfl, hq⟩
  show wpS Ω _ ir__law_cell [LI ns, .int k] (poOf Q X)
  unfold ir__law_cell
  unfold lawCell at hq
  simp only [wpS, wpE, List.getD_cons_zero, List.getD_cons_succ, List.set_cons_zero, List.set_cons_succ, List.length_map, List.length_cons, List.length_nil, wipeD, cmpI, s_asI, s_asB, s_asL, s_asT, s_asS, s_lvI, s_lvB, s_lvL, s_lvT, s_lvN, s_lvS, s_lvX, s_add, s_sub, s_mul, s_fdiv, s_mod, s_pow, s_lenL, s_lenT, s_abs, s_min, s_max, s_sum, s_any, s_all, s_intI, s_intB, s_list, s_listT, s_tupL, s_tupT, s_one, s_many, s_set, s_set0, s_imI, s_imB, s_imN, s_imT, s_nx, s_rt, s_ex, s_t0, s_t1, s_l0, s_l1, s_asD, s_keyI, s_optS, s_seqL, s_seqT, s_lvD, s_isi7, s_isN1, s_isN2, s_isN3, s_isN4, s_isN5, isNil, asO, s_i1, s_i2, s_i3, s_i4, s_i5, s_i6, eqd_int, eqd_bl, true_and, and_true, decide_eq_true_eq, if_true, ite_true, ite_false, Bool.not_eq_true', decide_eq_false_iff_not, Bool.false_eq_true, Bool.not_false, Bool.not_true, not_true_eq_false, Bool.true_eq_false]
  split
  · rename_i h
    rw [if_pos (by omega)] at hq
    refine item_LI (by omega) h ?_
    simp only [wpS, wpE, List.getD_cons_zero, List.getD_cons_succ, List.set_cons_zero, List.set_cons_succ, List.length_map, List.length_cons, List.length_nil, wipeD, cmpI, s_asI, s_asB, s_asL, s_asT, s_asS, s_lvI, s_lvB, s_lvL, s_lvT, s_lvN, s_lvS, s_lvX, s_add, s_sub, s_mul, s_fdiv, s_mod, s_pow, s_lenL, s_lenT, s_abs, s_min, s_max, s_sum, s_any, s_all, s_intI, s_intB, s_list, s_listT, s_tupL, s_tupT, s_one, s_many, s_set, s_set0, s_imI, s_imB, s_imN, s_imT, s_nx, s_rt, s_ex, s_t0, s_t1, s_l0, s_l1, s_asD, s_keyI, s_optS, s_seqL, s_seqT, s_lvD, s_isi7, s_isN1, s_isN2, s_isN3, s_isN4, s_isN5, isNil, asO, s_i1, s_i2, s_i3, s_i4, s_i5, s_i6, eqd_int, eqd_bl, true_and, and_true, decide_eq_true_eq, if_true, ite_true, ite_false, Bool.not_eq_true', decide_eq_false_iff_not, Bool.false_eq_true, Bool.not_false, Bool.not_true, not_true_eq_false, Bool.true_eq_false]
    exact ⟨by decide, hq⟩
  · rename_i h
    rw [if_neg (by omega)] at hq
    exact hq
theorem fm_nn (a : Int) {b : Int} (h : 0 < b) : 0 ≤ a.fmod b := by
  rw [Int.fmod_eq_emod_of_nonneg a (Int.le_of_lt h)]
  exact Int.emod_nonneg a (by omega)
theorem lawCell_bd (ns : List Int) (k : Nat) : 0 ≤ lawCell ns k ∧ lawCell ns k < 2147483647 := by
  unfold lawCell
  split
  · exact ⟨fm_nn _ (by decide), Int.fmod_lt_of_pos _ (by decide)⟩
  · decide
def lawThing (cell k many : Int) : Int :=
  let n1 := (cell.fmod 2147483647 * 48271 + 69621 * k * k + 7 * k).fmod 2147483629
  let n2 := (n1 * n1).fmod 2147483587
  ((n2 * (n2 + 48271)).fmod 2147483563).fmod many
theorem lawThing_bd {cell k many : Int} (h : 0 < many) : 0 ≤ lawThing cell k many ∧ lawThing cell k many < many := ⟨fm_nn _ h, Int.fmod_lt_of_pos _ h⟩
def sem__law_thing : FSem := fun ds Q _ => ∃ cell k many : Int, ds = [.int cell, .int k, .int many] ∧ -1000000 ≤ k ∧ k ≤ 1000000 ∧ 0 < many ∧ Q (.int (lawThing cell k many))
theorem wp__law_thing {Ω : Str → FSem} : ∀ ds Q X, ds.length = P__law_thing.length → sem__law_thing ds Q X → wpS Ω ci0 ir__law_thing (holesTo ds N__law_thing.length) (poOf Q X) := by
  rintro ds Q X _ ⟨cell, k, many, rfl, hk1, hk2, hm, hq⟩
  show wpS Ω _ ir__law_thing [.int cell, .int k, .int many, .hole] (poOf Q X)
  unfold ir__law_thing
  simp only [wpS, wpE, List.getD_cons_zero, List.getD_cons_succ, List.set_cons_zero, List.set_cons_succ, List.length_map, List.length_cons, List.length_nil, wipeD, cmpI, s_asI, s_asB, s_asL, s_asT, s_asS, s_lvI, s_lvB, s_lvL, s_lvT, s_lvN, s_lvS, s_lvX, s_add, s_sub, s_mul, s_fdiv, s_mod, s_pow, s_lenL, s_lenT, s_abs, s_min, s_max, s_sum, s_any, s_all, s_intI, s_intB, s_list, s_listT, s_tupL, s_tupT, s_one, s_many, s_set, s_set0, s_imI, s_imB, s_imN, s_imT, s_nx, s_rt, s_ex, s_t0, s_t1, s_l0, s_l1, s_asD, s_keyI, s_optS, s_seqL, s_seqT, s_lvD, s_isi7, s_isN1, s_isN2, s_isN3, s_isN4, s_isN5, isNil, asO, s_i1, s_i2, s_i3, s_i4, s_i5, s_i6, eqd_int, eqd_bl, true_and, and_true, decide_eq_true_eq, if_true, ite_true, ite_false, Bool.not_eq_true', decide_eq_false_iff_not, Bool.false_eq_true, Bool.not_false, Bool.not_true, not_true_eq_false, Bool.true_eq_false]
  unfold lawThing at hq
  dsimp only at hq
  have b1 := fm_nn (cell.fmod 2147483647 * 48271 + 69621 * k * k + 7 * k) (show (0 : Int) < 2147483629 by decide)
  have b2 := Int.fmod_lt_of_pos (cell.fmod 2147483647 * 48271 + 69621 * k * k + 7 * k) (show (0 : Int) < 2147483629 by decide)
  generalize (cell.fmod 2147483647 * 48271 + 69621 * k * k + 7 * k).fmod 2147483629 = n1 at hq b1 b2
  have b3 := fm_nn (n1 * n1) (show (0 : Int) < 2147483587 by decide)
  have b4 := Int.fmod_lt_of_pos (n1 * n1) (show (0 : Int) < 2147483587 by decide)
  generalize (n1 * n1).fmod 2147483587 = n2 at hq b3 b4
  exact ⟨by decide, mulok_r (by decide), mulok_l (by decide), mulok_r (by omega), mulok_l (by decide), by decide, mulok_l (by omega), by decide, mulok_l (by omega), by decide, by omega, hq⟩
/-! ### rows drawn -/
def lawNum (ns : List Int) (z : Int) (k : Nat) : Int := (if k < ns.length then ns.getD k 0 else (k : Int) * (k : Int) + 3 * (k : Int)).fmod (2 * z + 1) - z
def lawNums (ns : List Int) (s m : Nat) (z : Int) : List Int := (List.range m).map fun k => lawNum ns z (s + k)
theorem lawNum_bd {ns : List Int} {z : Int} {k : Nat} (h : 0 ≤ z) : -z ≤ lawNum ns z k ∧ lawNum ns z k ≤ z := by
  unfold lawNum
  generalize (if k < ns.length then ns.getD k 0 else (k : Int) * (k : Int) + 3 * (k : Int)) = y
  have h2 := fm_nn y (show 0 < 2 * z + 1 by omega)
  have h3 := Int.fmod_lt_of_pos y (show 0 < 2 * z + 1 by omega)
  omega
theorem lawNums_bd {ns : List Int} {s m : Nat} {z : Int} (h : 0 ≤ z) : ∀ x ∈ lawNums ns s m z, -z ≤ x ∧ x ≤ z := by
  intro x hx
  unfold lawNums at hx
  obtain ⟨k, _, rfl⟩ := List.mem_map.mp hx
  exact lawNum_bd h
theorem lawNums_len {ns : List Int} {s m : Nat} {z : Int} : (lawNums ns s m z).length = m := by
  unfold lawNums
  rw [List.length_map, List.length_range]
def sem__law_numbers : FSem := fun ds Q _ => ∃ (ns : List Int) (s m : Nat) (z : Int), ds = [LI ns, .int s, .int m, .int z] ∧ s ≤ 10000 ∧ m ≤ 10000 ∧ 0 ≤ z ∧ Q (LI (lawNums ns s m z))
theorem wp__law_numbers {Ω : Str → FSem} : ∀ ds Q X, ds.length = P__law_numbers.length → sem__law_numbers ds Q X → wpS Ω ci0 ir__law_numbers (holesTo ds N__law_numbers.length) (poOf Q X) := by
  rintro ds Q X _ ⟨ns, s, m, z, rfl, hs, hm, hz, hq⟩
  show wpS Ω _ ir__law_numbers [LI ns, .int s, .int m, .int z, .hole, .hole, .hole] (poOf Q X)
  unfold ir__law_numbers
  simp only [wpS, wpE, List.getD_cons_zero, List.getD_cons_succ, List.set_cons_zero, List.set_cons_succ, List.length_map, List.length_cons, List.length_nil, wipeD, cmpI, s_asI, s_asB, s_asL, s_asT, s_asS, s_lvI, s_lvB, s_lvL, s_lvT, s_lvN, s_lvS, s_lvX, s_add, s_sub, s_mul, s_fdiv, s_mod, s_pow, s_lenL, s_lenT, s_abs, s_min, s_max, s_sum, s_any, s_all, s_intI, s_intB, s_list, s_listT, s_tupL, s_tupT, s_one, s_many, s_set, s_set0, s_imI, s_imB, s_imN, s_imT, s_nx, s_rt, s_ex, s_t0, s_t1, s_l0, s_l1, s_asD, s_keyI, s_optS, s_seqL, s_seqT, s_lvD, s_isi7, s_isN1, s_isN2, s_isN3, s_isN4, s_isN5, isNil, asO, s_i1, s_i2, s_i3, s_i4, s_i5, s_i6, eqd_int, eqd_bl, true_and, and_true, decide_eq_true_eq, if_true, ite_true, ite_false, Bool.not_eq_true', decide_eq_false_iff_not, Bool.false_eq_true, Bool.not_false, Bool.not_true, not_true_eq_false, Bool.true_eq_false]
  refine ⟨⟨⟨by omega, by omega⟩, ⟨by omega, by omega⟩⟩, ?_⟩
  rw [show ((s : Int) + (m : Int) - (s : Int)).toNat = m by omega]
  have hz2 : (2 * z + 1 : Int) ≠ 0 := by omega
  refine goFor_rng (fun j ρ => ∃ x5 x6, ρ = [LI ns, .int s, .int m, .int z, LI ((List.range j).map fun k => lawNum ns z (s + k)), x5, x6]) ⟨_, _, rfl⟩ ?_ ?_
  · rintro k ρ Pn hk ⟨x5, x6, rfl⟩ hn
    have fin : ∀ z6, Pn [LI ns, .int s, .int m, .int z, .lst ((((List.range k).map fun k => lawNum ns z (s + k)).map D.int) ++ [.int (lawNum ns z (s + k))]), .int ((s : Int) + (k : Nat)), z6] := fun z6 => hn _ ⟨_, _, by rw [List.range_succ, List.map_append]; show _ = [LI ns, _, _, _, LI (_ ++ [lawNum ns z (s + k)]), _, _]; rw [LI, LI_snoc]⟩
    have e : (((s + k : Nat) : Int)) = (s : Int) + (k : Nat) := by omega
    simp only [wpS, wpE, List.getD_cons_zero, List.getD_cons_succ, List.set_cons_zero, List.set_cons_succ, List.length_map, List.length_cons, List.length_nil, wipeD, cmpI, s_asI, s_asB, s_asL, s_asT, s_asS, s_lvI, s_lvB, s_lvL, s_lvT, s_lvN, s_lvS, s_lvX, s_add, s_sub, s_mul, s_fdiv, s_mod, s_pow, s_lenL, s_lenT, s_abs, s_min, s_max, s_sum, s_any, s_all, s_intI, s_intB, s_list, s_listT, s_tupL, s_tupT, s_one, s_many, s_set, s_set0, s_imI, s_imB, s_imN, s_imT, s_nx, s_rt, s_ex, s_t0, s_t1, s_l0, s_l1, s_asD, s_keyI, s_optS, s_seqL, s_seqT, s_lvD, s_isi7, s_isN1, s_isN2, s_isN3, s_isN4, s_isN5, isNil, asO, s_i1, s_i2, s_i3, s_i4, s_i5, s_i6, eqd_int, eqd_bl, true_and, and_true, decide_eq_true_eq, if_true, ite_true, ite_false, Bool.not_eq_true', decide_eq_false_iff_not, Bool.false_eq_true, Bool.not_false, Bool.not_true, not_true_eq_false, Bool.true_eq_false]
    have l1 : ((List.range k).map fun k => lawNum ns z (s + k)).length < LIM := by rw [List.length_map, List.length_range]; unfold LIM; omega
    refine ⟨mulok_l (by omega), mulok_l (by decide), ?_⟩
    split
    · rename_i hlt
      refine item_LI (by omega) hlt ⟨rfl, ?_⟩
      simp only [wpS, wpE, List.getD_cons_zero, List.getD_cons_succ, List.set_cons_zero, List.set_cons_succ, List.length_map, List.length_cons, List.length_nil, wipeD, cmpI, s_asI, s_asB, s_asL, s_asT, s_asS, s_lvI, s_lvB, s_lvL, s_lvT, s_lvN, s_lvS, s_lvX, s_add, s_sub, s_mul, s_fdiv, s_mod, s_pow, s_lenL, s_lenT, s_abs, s_min, s_max, s_sum, s_any, s_all, s_intI, s_intB, s_list, s_listT, s_tupL, s_tupT, s_one, s_many, s_set, s_set0, s_imI, s_imB, s_imN, s_imT, s_nx, s_rt, s_ex, s_t0, s_t1, s_l0, s_l1, s_asD, s_keyI, s_optS, s_seqL, s_seqT, s_lvD, s_isi7, s_isN1, s_isN2, s_isN3, s_isN4, s_isN5, isNil, asO, s_i1, s_i2, s_i3, s_i4, s_i5, s_i6, eqd_int, eqd_bl, true_and, and_true, decide_eq_true_eq, if_true, ite_true, ite_false, Bool.not_eq_true', decide_eq_false_iff_not, Bool.false_eq_true, Bool.not_false, Bool.not_true, not_true_eq_false, Bool.true_eq_false]
      refine ⟨mulok_l (by decide), hz2, by simpa using l1, ?_⟩
      have e2 : lawNum ns z (s + k) = (ns.getD ((s : Int) + (k : Nat)).toNat 0).fmod (2 * z + 1) - z := by
        unfold lawNum
        rw [if_pos (by omega), show ((s : Int) + (k : Nat)).toNat = s + k by omega]
      rw [← e2]
      exact fin _
    · rename_i hlt
      refine ⟨mulok_l (by decide), hz2, by simpa using l1, ?_⟩
      have e2 : lawNum ns z (s + k) = (((s : Int) + (k : Nat)) * ((s : Int) + (k : Nat)) + 3 * ((s : Int) + (k : Nat))).fmod (2 * z + 1) - z := by
        unfold lawNum
        rw [if_neg (by omega), e]
      rw [← e2]
      exact fin _
  · rintro ρ ⟨x5, x6, rfl⟩
    simp only [wpS, wpE, List.getD_cons_zero, List.getD_cons_succ, List.set_cons_zero, List.set_cons_succ, List.length_map, List.length_cons, List.length_nil, wipeD, cmpI, s_asI, s_asB, s_asL, s_asT, s_asS, s_lvI, s_lvB, s_lvL, s_lvT, s_lvN, s_lvS, s_lvX, s_add, s_sub, s_mul, s_fdiv, s_mod, s_pow, s_lenL, s_lenT, s_abs, s_min, s_max, s_sum, s_any, s_all, s_intI, s_intB, s_list, s_listT, s_tupL, s_tupT, s_one, s_many, s_set, s_set0, s_imI, s_imB, s_imN, s_imT, s_nx, s_rt, s_ex, s_t0, s_t1, s_l0, s_l1, s_asD, s_keyI, s_optS, s_seqL, s_seqT, s_lvD, s_isi7, s_isN1, s_isN2, s_isN3, s_isN4, s_isN5, isNil, asO, s_i1, s_i2, s_i3, s_i4, s_i5, s_i6, eqd_int, eqd_bl, true_and, and_true, decide_eq_true_eq, if_true, ite_true, ite_false, Bool.not_eq_true', decide_eq_false_iff_not, Bool.false_eq_true, Bool.not_false, Bool.not_true, not_true_eq_false, Bool.true_eq_false]
    exact hq
/-! ### sums told -/
theorem zip_self {α : Type} (f : α → D) : ∀ s : List α, List.zipWith (fun p q => D.tup [p, q]) (s.map f) (s.map f) = s.map fun t => .tup [f t, f t]
  | [] => rfl
  | t :: s => by
    rw [List.map_cons, List.zipWith_cons_cons, zip_self f s]; rfl
def sem__law_same_sum : FSem := fun ds Q _ => ∃ s : List Tm, ds = [tms s, tms s] ∧ (∀ t ∈ s, t.1.length ≤ LIM) ∧ Q (.bl true)
theorem wp__law_same_sum {Ω : Str → FSem} (h : Ω "_law_whole" = sem__law_whole) : ∀ ds Q X, ds.length = P__law_same_sum.length → sem__law_same_sum ds Q X → wpS Ω ci0 ir__law_same_sum (holesTo ds N__law_same_sum.length) (poOf Q X) := by
  rintro ds Q X _ ⟨s, rfl, hl, hq⟩
  show wpS Ω _ ir__law_same_sum [tms s, tms s, .hole, .hole, .hole] (poOf Q X)
  unfold ir__law_same_sum
  simp only [wpS, wpE, List.getD_cons_zero, List.getD_cons_succ, List.set_cons_zero, List.set_cons_succ, List.length_map, List.length_cons, List.length_nil, wipeD, cmpI, s_asI, s_asB, s_asL, s_asT, s_asS, s_lvI, s_lvB, s_lvL, s_lvT, s_lvN, s_lvS, s_lvX, s_add, s_sub, s_mul, s_fdiv, s_mod, s_pow, s_lenL, s_lenT, s_abs, s_min, s_max, s_sum, s_any, s_all, s_intI, s_intB, s_list, s_listT, s_tupL, s_tupT, s_one, s_many, s_set, s_set0, s_imI, s_imB, s_imN, s_imT, s_nx, s_rt, s_ex, s_t0, s_t1, s_l0, s_l1, s_asD, s_keyI, s_optS, s_seqL, s_seqT, s_lvD, s_isi7, s_isN1, s_isN2, s_isN3, s_isN4, s_isN5, isNil, asO, s_i1, s_i2, s_i3, s_i4, s_i5, s_i6, eqd_int, eqd_bl, true_and, and_true, decide_eq_true_eq, if_true, ite_true, ite_false, Bool.not_eq_true', decide_eq_false_iff_not, Bool.false_eq_true, Bool.not_false, Bool.not_true, not_true_eq_false, Bool.true_eq_false]
  rw [zip_self]
  refine goFor_of (fun _ ρ => ∃ x2 x3 x4, ρ = [tms s, tms s, x2, x3, x4]) ⟨_, _, _, rfl⟩ ?_ ?_
  · rintro ys t zs ρ Pn hs ⟨x2, x3, x4, rfl⟩ hn
    have ht : t ∈ s := by rw [hs]; simp
    simp only [wpS, wpE, List.getD_cons_zero, List.getD_cons_succ, List.set_cons_zero, List.set_cons_succ, List.length_map, List.length_cons, List.length_nil, wipeD, cmpI, s_asI, s_asB, s_asL, s_asT, s_asS, s_lvI, s_lvB, s_lvL, s_lvT, s_lvN, s_lvS, s_lvX, s_add, s_sub, s_mul, s_fdiv, s_mod, s_pow, s_lenL, s_lenT, s_abs, s_min, s_max, s_sum, s_any, s_all, s_intI, s_intB, s_list, s_listT, s_tupL, s_tupT, s_one, s_many, s_set, s_set0, s_imI, s_imB, s_imN, s_imT, s_nx, s_rt, s_ex, s_t0, s_t1, s_l0, s_l1, s_asD, s_keyI, s_optS, s_seqL, s_seqT, s_lvD, s_isi7, s_isN1, s_isN2, s_isN3, s_isN4, s_isN5, isNil, asO, s_i1, s_i2, s_i3, s_i4, s_i5, s_i6, eqd_int, eqd_bl, true_and, and_true, decide_eq_true_eq, if_true, ite_true, ite_false, Bool.not_eq_true', decide_eq_false_iff_not, Bool.false_eq_true, Bool.not_false, Bool.not_true, not_true_eq_false, Bool.true_eq_false]
    rw [if_neg (by decide)]
    have all1 : ((t.1.map fun _ => true).all id) = true := by simp
    rw [h]
    refine ⟨t.2, rfl, ?_⟩
    simp only [wpS, wpE, List.getD_cons_zero, List.getD_cons_succ, List.set_cons_zero, List.set_cons_succ, List.length_map, List.length_cons, List.length_nil, wipeD, cmpI, s_asI, s_asB, s_asL, s_asT, s_asS, s_lvI, s_lvB, s_lvL, s_lvT, s_lvN, s_lvS, s_lvX, s_add, s_sub, s_mul, s_fdiv, s_mod, s_pow, s_lenL, s_lenT, s_abs, s_min, s_max, s_sum, s_any, s_all, s_intI, s_intB, s_list, s_listT, s_tupL, s_tupT, s_one, s_many, s_set, s_set0, s_imI, s_imB, s_imN, s_imT, s_nx, s_rt, s_ex, s_t0, s_t1, s_l0, s_l1, s_asD, s_keyI, s_optS, s_seqL, s_seqT, s_lvD, s_isi7, s_isN1, s_isN2, s_isN3, s_isN4, s_isN5, isNil, asO, s_i1, s_i2, s_i3, s_i4, s_i5, s_i6, eqd_int, eqd_bl, true_and, and_true, decide_eq_true_eq, if_true, ite_true, ite_false, Bool.not_eq_true', decide_eq_false_iff_not, Bool.false_eq_true, Bool.not_false, Bool.not_true, not_true_eq_false, Bool.true_eq_false]
    refine ⟨hl t ht, goLC_of (g := D.int) (xs := t.1) (f := fun _ => .bl true) (fun x hx R S r => by simp only [wpS, wpE, List.getD_cons_zero, List.getD_cons_succ, List.set_cons_zero, List.set_cons_succ, List.length_map, List.length_cons, List.length_nil, wipeD, cmpI, s_asI, s_asB, s_asL, s_asT, s_asS, s_lvI, s_lvB, s_lvL, s_lvT, s_lvN, s_lvS, s_lvX, s_add, s_sub, s_mul, s_fdiv, s_mod, s_pow, s_lenL, s_lenT, s_abs, s_min, s_max, s_sum, s_any, s_all, s_intI, s_intB, s_list, s_listT, s_tupL, s_tupT, s_one, s_many, s_set, s_set0, s_imI, s_imB, s_imN, s_imT, s_nx, s_rt, s_ex, s_t0, s_t1, s_l0, s_l1, s_asD, s_keyI, s_optS, s_seqL, s_seqT, s_lvD, s_isi7, s_isN1, s_isN2, s_isN3, s_isN4, s_isN5, isNil, asO, s_i1, s_i2, s_i3, s_i4, s_i5, s_i6, eqd_int, eqd_bl, true_and, and_true, decide_eq_true_eq, if_true, ite_true, ite_false, Bool.not_eq_true', decide_eq_false_iff_not, Bool.false_eq_true, Bool.not_false, Bool.not_true, not_true_eq_false, Bool.true_eq_false]; exact ⟨x, rfl, r⟩) ?_⟩
    rw [map_bl (fun _ => true), s_all, all1]
    simp only [wpS, wpE, List.getD_cons_zero, List.getD_cons_succ, List.set_cons_zero, List.set_cons_succ, List.length_map, List.length_cons, List.length_nil, wipeD, cmpI, s_asI, s_asB, s_asL, s_asT, s_asS, s_lvI, s_lvB, s_lvL, s_lvT, s_lvN, s_lvS, s_lvX, s_add, s_sub, s_mul, s_fdiv, s_mod, s_pow, s_lenL, s_lenT, s_abs, s_min, s_max, s_sum, s_any, s_all, s_intI, s_intB, s_list, s_listT, s_tupL, s_tupT, s_one, s_many, s_set, s_set0, s_imI, s_imB, s_imN, s_imT, s_nx, s_rt, s_ex, s_t0, s_t1, s_l0, s_l1, s_asD, s_keyI, s_optS, s_seqL, s_seqT, s_lvD, s_isi7, s_isN1, s_isN2, s_isN3, s_isN4, s_isN5, isNil, asO, s_i1, s_i2, s_i3, s_i4, s_i5, s_i6, eqd_int, eqd_bl, true_and, and_true, decide_eq_true_eq, if_true, ite_true, ite_false, Bool.not_eq_true', decide_eq_false_iff_not, Bool.false_eq_true, Bool.not_false, Bool.not_true, not_true_eq_false, Bool.true_eq_false]
    rw [eqd_tm, decide_eq_true rfl]
    exact hn _ ⟨_, _, _, rfl⟩
  · rintro ρ ⟨x2, x3, x4, rfl⟩
    simp only [wpS, wpE, List.getD_cons_zero, List.getD_cons_succ, List.set_cons_zero, List.set_cons_succ, List.length_map, List.length_cons, List.length_nil, wipeD, cmpI, s_asI, s_asB, s_asL, s_asT, s_asS, s_lvI, s_lvB, s_lvL, s_lvT, s_lvN, s_lvS, s_lvX, s_add, s_sub, s_mul, s_fdiv, s_mod, s_pow, s_lenL, s_lenT, s_abs, s_min, s_max, s_sum, s_any, s_all, s_intI, s_intB, s_list, s_listT, s_tupL, s_tupT, s_one, s_many, s_set, s_set0, s_imI, s_imB, s_imN, s_imT, s_nx, s_rt, s_ex, s_t0, s_t1, s_l0, s_l1, s_asD, s_keyI, s_optS, s_seqL, s_seqT, s_lvD, s_isi7, s_isN1, s_isN2, s_isN3, s_isN4, s_isN5, isNil, asO, s_i1, s_i2, s_i3, s_i4, s_i5, s_i6, eqd_int, eqd_bl, true_and, and_true, decide_eq_true_eq, if_true, ite_true, ite_false, Bool.not_eq_true', decide_eq_false_iff_not, Bool.false_eq_true, Bool.not_false, Bool.not_true, not_true_eq_false, Bool.true_eq_false]
    exact hq
/-! ### in order, with a sign -/
theorem pr_foldr (x : Int) : ∀ (l : List Int) (c : Int), (l.map fun y => e1 y x).foldr (· * ·) c = (l.map fun y => e1 y x).foldr (· * ·) 1 * c
  | [], c => (Int.one_mul c).symm
  | y :: l, c => by
    show e1 y x * (l.map fun y => e1 y x).foldr (· * ·) c = e1 y x * (l.map fun y => e1 y x).foldr (· * ·) 1 * c
    rw [pr_foldr x l c, Int.mul_assoc]
def prE (l : List Int) (x : Int) : Int := (l.map fun y => e1 y x).foldr (· * ·) 1
theorem prE_snoc (l : List Int) (x y : Int) : prE (l ++ [y]) x = prE l x * e1 y x := by
  unfold prE
  rw [List.map_append, List.foldr_append, pr_foldr]
  show _ * (e1 y x * 1) = _
  rw [Int.mul_one]
theorem sg_take {ps : List Int} {j : Nat} (h : j < ps.length) : sg (ps.take (j + 1)) = sg (ps.take j) * prE (ps.take j) (ps.getD j 0) := by
  rw [List.take_add_one, List.getElem?_eq_getElem h]
  show sg (ps.take j ++ [ps[j]]) = _
  rw [sg_snoc, List.getD_eq_getElem?_getD, List.getElem?_eq_getElem h]; rfl
theorem take_take_succ {ps : List Int} {j k : Nat} (h : j ≤ ps.length) (hk : k < j) : (ps.take j).take (k + 1) = (ps.take j).take k ++ [ps.getD k 0] := by
  have h1 : k < (ps.take j).length := by rw [List.length_take]; omega
  rw [List.take_add_one, List.getElem?_eq_getElem h1]
  show _ ++ [(ps.take j)[k]] = _
  rw [List.getElem_take, List.getD_eq_getElem?_getD, List.getElem?_eq_getElem (by omega)]; rfl
def okT (ts : List Tm) : Prop := ts.length ≤ 100000 ∧ ∀ t ∈ ts, t.1.length ≤ 1000
def sem__law_gathered : FSem := fun ds Q _ => ∃ ts : List Tm, ds = [tms ts] ∧ okT ts ∧ Q (tms (gath ts))
theorem wp__law_gathered {Ω : Str → FSem} : ∀ ds Q X, ds.length = P__law_gathered.length → sem__law_gathered ds Q X → wpS Ω ci0 ir__law_gathered (holesTo ds N__law_gathered.length) (poOf Q X) := by
  rintro ds Q X _ ⟨ts, rfl, ⟨hl, hp⟩, hq⟩
  show wpS Ω _ ir__law_gathered [tms ts, .hole, .hole, .hole, .hole, .hole, .hole, .hole] (poOf Q X)
  unfold ir__law_gathered
  simp only [wpS, wpE, List.getD_cons_zero, List.getD_cons_succ, List.set_cons_zero, List.set_cons_succ, List.length_map, List.length_cons, List.length_nil, wipeD, cmpI, s_asI, s_asB, s_asL, s_asT, s_asS, s_lvI, s_lvB, s_lvL, s_lvT, s_lvN, s_lvS, s_lvX, s_add, s_sub, s_mul, s_fdiv, s_mod, s_pow, s_lenL, s_lenT, s_abs, s_min, s_max, s_sum, s_any, s_all, s_intI, s_intB, s_list, s_listT, s_tupL, s_tupT, s_one, s_many, s_set, s_set0, s_imI, s_imB, s_imN, s_imT, s_nx, s_rt, s_ex, s_t0, s_t1, s_l0, s_l1, s_asD, s_keyI, s_optS, s_seqL, s_seqT, s_lvD, s_isi7, s_isN1, s_isN2, s_isN3, s_isN4, s_isN5, isNil, asO, s_i1, s_i2, s_i3, s_i4, s_i5, s_i6, eqd_int, eqd_bl, true_and, and_true, decide_eq_true_eq, if_true, ite_true, ite_false, Bool.not_eq_true', decide_eq_false_iff_not, Bool.false_eq_true, Bool.not_false, Bool.not_true, not_true_eq_false, Bool.true_eq_false]
  refine goFor_of (fun us ρ => ∃ x2 x3 x4 x5 x6 x7, ρ = [tms ts, .dct (dic us), x2, x3, x4, x5, x6, x7]) ⟨_, _, _, _, _, _, rfl⟩ ?_ ?_
  · rintro us ⟨ps, n⟩ zs ρ Pn hs ⟨x2, x3, x4, x5, x6, x7, rfl⟩ hn
    have ht : ((ps, n) : Tm) ∈ ts := by rw [hs]; simp
    have hps : ps.length ≤ 1000 := hp _ ht
    simp only [wpS, wpE, List.getD_cons_zero, List.getD_cons_succ, List.set_cons_zero, List.set_cons_succ, List.length_map, List.length_cons, List.length_nil, wipeD, cmpI, s_asI, s_asB, s_asL, s_asT, s_asS, s_lvI, s_lvB, s_lvL, s_lvT, s_lvN, s_lvS, s_lvX, s_add, s_sub, s_mul, s_fdiv, s_mod, s_pow, s_lenL, s_lenT, s_abs, s_min, s_max, s_sum, s_any, s_all, s_intI, s_intB, s_list, s_listT, s_tupL, s_tupT, s_one, s_many, s_set, s_set0, s_imI, s_imB, s_imN, s_imT, s_nx, s_rt, s_ex, s_t0, s_t1, s_l0, s_l1, s_asD, s_keyI, s_optS, s_seqL, s_seqT, s_lvD, s_isi7, s_isN1, s_isN2, s_isN3, s_isN4, s_isN5, isNil, asO, s_i1, s_i2, s_i3, s_i4, s_i5, s_i6, eqd_int, eqd_bl, true_and, and_true, decide_eq_true_eq, if_true, ite_true, ite_false, Bool.not_eq_true', decide_eq_false_iff_not, Bool.false_eq_true, Bool.not_false, Bool.not_true, not_true_eq_false, Bool.true_eq_false]
    refine ⟨⟨by omega, by omega⟩, ?_⟩
    rw [Int.toNat_natCast]
    refine goFor_rng (fun j ρ => ∃ (m s : Int) (x5 x6 x7 : D), ρ = [tms ts, .dct (dic us), tupI ps, .int m, .int s, x5, x6, x7] ∧ s.natAbs ≤ 1 ∧ s * m = sg (ps.take j) * n) ⟨n, 1, _, _, _, rfl, by decide, by rw [List.take_zero]; rfl⟩ ?_ ?_
    · rintro j ρ Pn2 hj ⟨m, s, x5, x6, x7, rfl, hsm, he⟩ hn2
      simp only [wpS, wpE, List.getD_cons_zero, List.getD_cons_succ, List.set_cons_zero, List.set_cons_succ, List.length_map, List.length_cons, List.length_nil, wipeD, cmpI, s_asI, s_asB, s_asL, s_asT, s_asS, s_lvI, s_lvB, s_lvL, s_lvT, s_lvN, s_lvS, s_lvX, s_add, s_sub, s_mul, s_fdiv, s_mod, s_pow, s_lenL, s_lenT, s_abs, s_min, s_max, s_sum, s_any, s_all, s_intI, s_intB, s_list, s_listT, s_tupL, s_tupT, s_one, s_many, s_set, s_set0, s_imI, s_imB, s_imN, s_imT, s_nx, s_rt, s_ex, s_t0, s_t1, s_l0, s_l1, s_asD, s_keyI, s_optS, s_seqL, s_seqT, s_lvD, s_isi7, s_isN1, s_isN2, s_isN3, s_isN4, s_isN5, isNil, asO, s_i1, s_i2, s_i3, s_i4, s_i5, s_i6, eqd_int, eqd_bl, true_and, and_true, decide_eq_true_eq, if_true, ite_true, ite_false, Bool.not_eq_true', decide_eq_false_iff_not, Bool.false_eq_true, Bool.not_false, Bool.not_true, not_true_eq_false, Bool.true_eq_false]
      refine ⟨⟨by omega, by omega⟩, ?_⟩
      rw [Int.toNat_natCast]
      refine goFor_rng (fun k ρ => ∃ (m s : Int) (x6 x7 : D), ρ = [tms ts, .dct (dic us), tupI ps, .int m, .int s, .int (j : Nat), x6, x7] ∧ s.natAbs ≤ 1 ∧ s * m = sg (ps.take j) * prE ((ps.take j).take k) (ps.getD j 0) * n) ⟨m, s, _, _, rfl, hsm, by rw [List.take_zero, he]; show _ = sg (ps.take j) * 1 * n; rw [Int.mul_one]⟩ ?_ ?_
      · rintro k ρ Pn3 hk ⟨m, s, x6, x7, rfl, hsm, he⟩ hn3
        have hk2 : k < ps.length := by omega
        simp only [wpS, wpE, List.getD_cons_zero, List.getD_cons_succ, List.set_cons_zero, List.set_cons_succ, List.length_map, List.length_cons, List.length_nil, wipeD, cmpI, s_asI, s_asB, s_asL, s_asT, s_asS, s_lvI, s_lvB, s_lvL, s_lvT, s_lvN, s_lvS, s_lvX, s_add, s_sub, s_mul, s_fdiv, s_mod, s_pow, s_lenL, s_lenT, s_abs, s_min, s_max, s_sum, s_any, s_all, s_intI, s_intB, s_list, s_listT, s_tupL, s_tupT, s_one, s_many, s_set, s_set0, s_imI, s_imB, s_imN, s_imT, s_nx, s_rt, s_ex, s_t0, s_t1, s_l0, s_l1, s_asD, s_keyI, s_optS, s_seqL, s_seqT, s_lvD, s_isi7, s_isN1, s_isN2, s_isN3, s_isN4, s_isN5, isNil, asO, s_i1, s_i2, s_i3, s_i4, s_i5, s_i6, eqd_int, eqd_bl, true_and, and_true, decide_eq_true_eq, if_true, ite_true, ite_false, Bool.not_eq_true', decide_eq_false_iff_not, Bool.false_eq_true, Bool.not_false, Bool.not_true, not_true_eq_false, Bool.true_eq_false]
        refine item_tup (by omega) (by omega) ?_
        refine item_tup (by omega) (by omega) ?_
        rw [Int.toNat_natCast, Int.toNat_natCast]
        have stepE : prE ((ps.take j).take (k + 1)) (ps.getD j 0) = prE ((ps.take j).take k) (ps.getD j 0) * e1 (ps.getD k 0) (ps.getD j 0) := by
          rw [take_take_succ (by omega) hk, prE_snoc]
        have fin : ∀ m' s' : Int, s'.natAbs ≤ 1 → s' * m' = s * m * e1 (ps.getD k 0) (ps.getD j 0) → Pn3 [tms ts, .dct (dic us), tupI ps, .int m', .int s', .int (j : Nat), .int (k : Nat), x7] := fun m' s' h1 h2 =>
          hn3 _ ⟨m', s', _, _, rfl, h1, by rw [h2, he, stepE, Int.mul_assoc, Int.mul_assoc, Int.mul_assoc, Int.mul_comm n, Int.mul_assoc]⟩
        have e1v : ∀ a b : Int, e1 a b = if a = b then 0 else if b < a then -1 else 1 := fun a b => rfl
        rw [e1v] at fin
        simp only [wpS, wpE, List.getD_cons_zero, List.getD_cons_succ, List.set_cons_zero, List.set_cons_succ, List.length_map, List.length_cons, List.length_nil, wipeD, cmpI, s_asI, s_asB, s_asL, s_asT, s_asS, s_lvI, s_lvB, s_lvL, s_lvT, s_lvN, s_lvS, s_lvX, s_add, s_sub, s_mul, s_fdiv, s_mod, s_pow, s_lenL, s_lenT, s_abs, s_min, s_max, s_sum, s_any, s_all, s_intI, s_intB, s_list, s_listT, s_tupL, s_tupT, s_one, s_many, s_set, s_set0, s_imI, s_imB, s_imN, s_imT, s_nx, s_rt, s_ex, s_t0, s_t1, s_l0, s_l1, s_asD, s_keyI, s_optS, s_seqL, s_seqT, s_lvD, s_isi7, s_isN1, s_isN2, s_isN3, s_isN4, s_isN5, isNil, asO, s_i1, s_i2, s_i3, s_i4, s_i5, s_i6, eqd_int, eqd_bl, true_and, and_true, decide_eq_true_eq, if_true, ite_true, ite_false, Bool.not_eq_true', decide_eq_false_iff_not, Bool.false_eq_true, Bool.not_false, Bool.not_true, not_true_eq_false, Bool.true_eq_false]
        split
        · rename_i hgt
          refine item_tup (by omega) (by omega) ?_
          refine item_tup (by omega) (by omega) ?_
          rw [Int.toNat_natCast, Int.toNat_natCast]
          simp only [wpS, wpE, List.getD_cons_zero, List.getD_cons_succ, List.set_cons_zero, List.set_cons_succ, List.length_map, List.length_cons, List.length_nil, wipeD, cmpI, s_asI, s_asB, s_asL, s_asT, s_asS, s_lvI, s_lvB, s_lvL, s_lvT, s_lvN, s_lvS, s_lvX, s_add, s_sub, s_mul, s_fdiv, s_mod, s_pow, s_lenL, s_lenT, s_abs, s_min, s_max, s_sum, s_any, s_all, s_intI, s_intB, s_list, s_listT, s_tupL, s_tupT, s_one, s_many, s_set, s_set0, s_imI, s_imB, s_imN, s_imT, s_nx, s_rt, s_ex, s_t0, s_t1, s_l0, s_l1, s_asD, s_keyI, s_optS, s_seqL, s_seqT, s_lvD, s_isi7, s_isN1, s_isN2, s_isN3, s_isN4, s_isN5, isNil, asO, s_i1, s_i2, s_i3, s_i4, s_i5, s_i6, eqd_int, eqd_bl, true_and, and_true, decide_eq_true_eq, if_true, ite_true, ite_false, Bool.not_eq_true', decide_eq_false_iff_not, Bool.false_eq_true, Bool.not_false, Bool.not_true, not_true_eq_false, Bool.true_eq_false]
          split
          · rename_i heq
            omega
          · rename_i heq
            rw [if_neg heq, if_pos hgt] at fin
            exact fin _ _ (by omega) (by rw [Int.zero_sub, Int.neg_mul, Int.mul_neg, Int.mul_one])
        · rename_i hgt
          refine item_tup (by omega) (by omega) ?_
          refine item_tup (by omega) (by omega) ?_
          rw [Int.toNat_natCast, Int.toNat_natCast]
          simp only [wpS, wpE, List.getD_cons_zero, List.getD_cons_succ, List.set_cons_zero, List.set_cons_succ, List.length_map, List.length_cons, List.length_nil, wipeD, cmpI, s_asI, s_asB, s_asL, s_asT, s_asS, s_lvI, s_lvB, s_lvL, s_lvT, s_lvN, s_lvS, s_lvX, s_add, s_sub, s_mul, s_fdiv, s_mod, s_pow, s_lenL, s_lenT, s_abs, s_min, s_max, s_sum, s_any, s_all, s_intI, s_intB, s_list, s_listT, s_tupL, s_tupT, s_one, s_many, s_set, s_set0, s_imI, s_imB, s_imN, s_imT, s_nx, s_rt, s_ex, s_t0, s_t1, s_l0, s_l1, s_asD, s_keyI, s_optS, s_seqL, s_seqT, s_lvD, s_isi7, s_isN1, s_isN2, s_isN3, s_isN4, s_isN5, isNil, asO, s_i1, s_i2, s_i3, s_i4, s_i5, s_i6, eqd_int, eqd_bl, true_and, and_true, decide_eq_true_eq, if_true, ite_true, ite_false, Bool.not_eq_true', decide_eq_false_iff_not, Bool.false_eq_true, Bool.not_false, Bool.not_true, not_true_eq_false, Bool.true_eq_false]
          split
          · rename_i heq
            rw [if_pos heq] at fin
            exact fin _ _ hsm (by rw [Int.mul_zero, Int.mul_zero])
          · rename_i heq
            rw [if_neg heq, if_neg hgt] at fin
            exact fin _ _ hsm (by rw [Int.mul_one])
      · rintro ρ ⟨m, s, x6, x7, rfl, hsm, he⟩
        refine hn2 _ ⟨m, s, _, _, _, rfl, hsm, ?_⟩
        rw [he, sg_take hj, List.take_take, Nat.min_self]
    · rintro ρ ⟨m, s, x5, x6, x7, rfl, hsm, he⟩
      simp only [wpS, wpE, List.getD_cons_zero, List.getD_cons_succ, List.set_cons_zero, List.set_cons_succ, List.length_map, List.length_cons, List.length_nil, wipeD, cmpI, s_asI, s_asB, s_asL, s_asT, s_asS, s_lvI, s_lvB, s_lvL, s_lvT, s_lvN, s_lvS, s_lvX, s_add, s_sub, s_mul, s_fdiv, s_mod, s_pow, s_lenL, s_lenT, s_abs, s_min, s_max, s_sum, s_any, s_all, s_intI, s_intB, s_list, s_listT, s_tupL, s_tupT, s_one, s_many, s_set, s_set0, s_imI, s_imB, s_imN, s_imT, s_nx, s_rt, s_ex, s_t0, s_t1, s_l0, s_l1, s_asD, s_keyI, s_optS, s_seqL, s_seqT, s_lvD, s_isi7, s_isN1, s_isN2, s_isN3, s_isN4, s_isN5, isNil, asO, s_i1, s_i2, s_i3, s_i4, s_i5, s_i6, eqd_int, eqd_bl, true_and, and_true, decide_eq_true_eq, if_true, ite_true, ite_false, Bool.not_eq_true', decide_eq_false_iff_not, Bool.false_eq_true, Bool.not_false, Bool.not_true, not_true_eq_false, Bool.true_eq_false]
      refine s_srtI ?_
      simp only [wpS, wpE, List.getD_cons_zero, List.getD_cons_succ, List.set_cons_zero, List.set_cons_succ, List.length_map, List.length_cons, List.length_nil, wipeD, cmpI, s_asI, s_asB, s_asL, s_asT, s_asS, s_lvI, s_lvB, s_lvL, s_lvT, s_lvN, s_lvS, s_lvX, s_add, s_sub, s_mul, s_fdiv, s_mod, s_pow, s_lenL, s_lenT, s_abs, s_min, s_max, s_sum, s_any, s_all, s_intI, s_intB, s_list, s_listT, s_tupL, s_tupT, s_one, s_many, s_set, s_set0, s_imI, s_imB, s_imN, s_imT, s_nx, s_rt, s_ex, s_t0, s_t1, s_l0, s_l1, s_asD, s_keyI, s_optS, s_seqL, s_seqT, s_lvD, s_isi7, s_isN1, s_isN2, s_isN3, s_isN4, s_isN5, isNil, asO, s_i1, s_i2, s_i3, s_i4, s_i5, s_i6, eqd_int, eqd_bl, true_and, and_true, decide_eq_true_eq, if_true, ite_true, ite_false, Bool.not_eq_true', decide_eq_false_iff_not, Bool.false_eq_true, Bool.not_false, Bool.not_true, not_true_eq_false, Bool.true_eq_false]
      refine ⟨fun _ => imms_map _, mulok_l (by omega), ?_⟩
      rw [List.take_length] at he
      have ed : putD (dic us) (srt ps) ((getD' (dic us) (srt ps)).getD 0 + s * m) = dic (us ++ [(ps, n)]) := by rw [dic_snoc, he]; rfl
      rw [ed]
      refine ⟨?_, hn _ ⟨_, _, _, _, _, _, rfl⟩⟩
      have := dic_len us
      have : us.length ≤ ts.length := by rw [hs]; simp
      unfold LIM; omega
  · rintro ρ ⟨x2, x3, x4, x5, x6, x7, rfl⟩
    simp only [wpS, wpE, List.getD_cons_zero, List.getD_cons_succ, List.set_cons_zero, List.set_cons_succ, List.length_map, List.length_cons, List.length_nil, wipeD, cmpI, s_asI, s_asB, s_asL, s_asT, s_asS, s_lvI, s_lvB, s_lvL, s_lvT, s_lvN, s_lvS, s_lvX, s_add, s_sub, s_mul, s_fdiv, s_mod, s_pow, s_lenL, s_lenT, s_abs, s_min, s_max, s_sum, s_any, s_all, s_intI, s_intB, s_list, s_listT, s_tupL, s_tupT, s_one, s_many, s_set, s_set0, s_imI, s_imB, s_imN, s_imT, s_nx, s_rt, s_ex, s_t0, s_t1, s_l0, s_l1, s_asD, s_keyI, s_optS, s_seqL, s_seqT, s_lvD, s_isi7, s_isN1, s_isN2, s_isN3, s_isN4, s_isN5, isNil, asO, s_i1, s_i2, s_i3, s_i4, s_i5, s_i6, eqd_int, eqd_bl, true_and, and_true, decide_eq_true_eq, if_true, ite_true, ite_false, Bool.not_eq_true', decide_eq_false_iff_not, Bool.false_eq_true, Bool.not_false, Bool.not_true, not_true_eq_false, Bool.true_eq_false]
    refine ⟨Nat.le_trans (dic_len ts) (by unfold LIM; omega), ?_⟩
    refine goLC_ofF (g := fun p : Tm => .tup [tupI p.1, .int p.2]) (xs := dic ts) (p := fun t => decide (t.2 ≠ 0)) (f := tmD) (fun t ht R S r => by simp only [wpS, wpE, List.getD_cons_zero, List.getD_cons_succ, List.set_cons_zero, List.set_cons_succ, List.length_map, List.length_cons, List.length_nil, wipeD, cmpI, s_asI, s_asB, s_asL, s_asT, s_asS, s_lvI, s_lvB, s_lvL, s_lvT, s_lvN, s_lvS, s_lvX, s_add, s_sub, s_mul, s_fdiv, s_mod, s_pow, s_lenL, s_lenT, s_abs, s_min, s_max, s_sum, s_any, s_all, s_intI, s_intB, s_list, s_listT, s_tupL, s_tupT, s_one, s_many, s_set, s_set0, s_imI, s_imB, s_imN, s_imT, s_nx, s_rt, s_ex, s_t0, s_t1, s_l0, s_l1, s_asD, s_keyI, s_optS, s_seqL, s_seqT, s_lvD, s_isi7, s_isN1, s_isN2, s_isN3, s_isN4, s_isN5, isNil, asO, s_i1, s_i2, s_i3, s_i4, s_i5, s_i6, eqd_int, eqd_bl, true_and, and_true, decide_eq_true_eq, if_true, ite_true, ite_false, Bool.not_eq_true', decide_eq_false_iff_not, Bool.false_eq_true, Bool.not_false, Bool.not_true, not_true_eq_false, Bool.true_eq_false]; simpa [imms_map] using r) ?_
    exact s_srtT hq
end FM.Lib

set_option Elab.async false
set_option linter.all false
set_option maxRecDepth 100000
namespace FM.Lib
open PySem L2
theorem getD_set (f : List Int) (n i : Nat) (v : Int) (h : n < f.length) : (f.set n v).getD i 0 = if i = n then v else f.getD i 0 := by
  rw [List.getD_eq_getElem?_getD, List.getElem?_set, List.getD_eq_getElem?_getD]
  by_cases e : n = i
  · subst e
    rw [if_pos rfl, if_pos h, if_pos rfl]; rfl
  · rw [if_neg e, if_neg (fun z => e z.symm)]
theorem getD_get {f : List Int} {i : Nat} (h : i < f.length) : f.getD i 0 = f[i] := by
  rw [List.getD_eq_getElem?_getD, List.getElem?_eq_getElem h]; rfl
def swp (f : List Int) (m : Nat) : List Int := (f.set m (f.getD (m + 1) 0)).set (m + 1) (f.getD m 0)
theorem swp_split {f : List Int} {m : Nat} (h : m + 1 < f.length) : ∃ l r a b, f = l ++ a :: b :: r ∧ swp f m = l ++ b :: a :: r := by
  refine ⟨f.take m, f.drop (m + 2), f.getD m 0, f.getD (m + 1) 0, ?_, ?_⟩
  · rw [getD_get (show m < f.length by omega), getD_get h]
    rw [List.getElem_cons_drop_succ_eq_drop, List.getElem_cons_drop_succ_eq_drop, List.take_append_drop]
  · refine List.ext_getElem ?_ fun i h1 h2 => ?_
    · unfold swp
      simp
      omega
    · have e1 : (swp f m)[i] = (swp f m).getD i 0 := (getD_get h1).symm
      have hl : (swp f m).length = f.length := by unfold swp; simp
      rw [e1]
      unfold swp
      rw [getD_set _ _ _ _ (by simpa using h), getD_set _ _ _ _ (by omega)]
      rw [List.getElem_append]
      simp only [List.length_take]
      have hm : min m f.length = m := by omega
      by_cases c1 : i < m
      · rw [if_neg (by omega), if_neg (by omega), dif_pos (by omega), List.getElem_take, getD_get (by omega)]
      · rw [dif_neg (by omega)]
        by_cases c2 : i = m
        · subst c2
          rw [if_neg (by omega), if_pos rfl]
          simp [hm]
        · by_cases c3 : i = m + 1
          · subst c3
            rw [if_pos rfl]
            simp only [hm]
            have : m + 1 - m = 1 := by omega
            simp [this]
          · rw [if_neg c3, if_neg c2, getD_get (by omega)]
            simp only [hm]
            obtain ⟨d, rfl⟩ : ∃ d, i = m + 2 + d := ⟨i - (m + 2), by omega⟩
            have e2 : m + 2 + d - m = d + 1 + 1 := by omega
            simp only [e2, List.getElem_cons_succ, List.getElem_drop]
theorem swp_sg {f : List Int} {m : Nat} (h : m + 1 < f.length) : sg (swp f m) = - sg f := by
  obtain ⟨l, r, a, b, e1, e2⟩ := swp_split h
  rw [e2, e1, sg_swap b a]
theorem swp_perm {f : List Int} {m : Nat} (h : m + 1 < f.length) : (swp f m).Perm f := by
  obtain ⟨l, r, a, b, e1, e2⟩ := swp_split h
  rw [e2, e1]
  exact List.Perm.append_left _ (List.Perm.swap ..)
theorem swp_get {f : List Int} {m : Nat} (h : m + 1 < f.length) (i : Nat) : (swp f m).getD i 0 = if i = m + 1 then f.getD m 0 else if i = m then f.getD (m + 1) 0 else f.getD i 0 := by
  unfold swp
  rw [getD_set _ _ _ _ (by simpa using h), getD_set _ _ _ _ (by omega)]
theorem sorted_of {f : List Int} (h : ∀ i j, i < j → j < f.length → f.getD i 0 ≤ f.getD j 0) : f.Pairwise (· ≤ ·) := by
  refine List.pairwise_iff_getElem.mpr fun i j hi hj hij => ?_
  have := h i j hij hj
  rw [getD_get hi, getD_get hj] at this
  exact this
theorem use_ix {n k : Nat} {K : Nat → Prop} (h : k < n) (q : K k) : optG (ixN n (k : Int)) K := by
  rw [ixN_nat h]; exact q
theorem use_ix1 {n k : Nat} {K : Nat → Prop} (h : k + 1 < n) (q : K (k + 1)) : optG (ixN n ((k : Int) + 1)) K := by
  have := use_ix (k := k + 1) h q
  simpa using this
def sem_ordered : FSem := fun ds Q _ => ∃ ps : List Int, ds = [tupI ps] ∧ ps.length ≤ 1000 ∧ Q (.tup [.int (sg ps), tupI (srt ps)])
theorem wp_ordered {Ω : Str → FSem} : ∀ ds Q X, ds.length = P_ordered.length → sem_ordered ds Q X → wpS Ω ci0 ir_ordered (holesTo ds N_ordered.length) (poOf Q X) := by
  rintro ds Q X _ ⟨ps, rfl, hl, hq⟩
  show wpS Ω _ ir_ordered [tupI ps, .hole, .hole, .hole, .hole] (poOf Q X)
  unfold ir_ordered
  simp only [wpS, wpE, List.getD_cons_zero, List.getD_cons_succ, List.set_cons_zero, List.set_cons_succ, List.length_map, List.length_cons, List.length_nil, wipeD, cmpI, s_asI, s_asB, s_asL, s_asT, s_asS, s_lvI, s_lvB, s_lvL, s_lvT, s_lvN, s_lvS, s_lvX, s_add, s_sub, s_mul, s_fdiv, s_mod, s_pow, s_lenL, s_lenT, s_abs, s_min, s_max, s_sum, s_any, s_all, s_intI, s_intB, s_list, s_listT, s_tupL, s_tupT, s_one, s_many, s_set, s_set0, s_imI, s_imB, s_imN, s_imT, s_nx, s_rt, s_ex, s_t0, s_t1, s_l0, s_l1, s_asD, s_keyI, s_optS, s_seqL, s_seqT, s_lvD, s_isi7, s_isN1, s_isN2, s_isN3, s_isN4, s_isN5, isNil, asO, s_i1, s_i2, s_i3, s_i4, s_i5, s_i6, eqd_int, eqd_bl, true_and, and_true, decide_eq_true_eq, if_true, ite_true, ite_false, Bool.not_eq_true', decide_eq_false_iff_not, Bool.false_eq_true, Bool.not_false, Bool.not_true, not_true_eq_false, Bool.true_eq_false]
  refine ⟨fun _ => imms_map _, ⟨by omega, by omega⟩, ?_⟩
  rw [Int.toNat_natCast]
  refine goFor_rev (fun e ρ => ∃ (f : List Int) (s : Int) (x3 x4 : D), ρ = [tupI ps, LI f, .int s, x3, x4] ∧ f.Perm ps ∧ s * sg f = sg ps ∧ s.natAbs = 1 ∧ (∀ i j, i < j → j < f.length → e ≤ j → f.getD i 0 ≤ f.getD j 0)) ⟨ps, 1, _, _, rfl, List.Perm.refl _, Int.one_mul _, rfl, fun i j h1 h2 h3 => by omega⟩ ?_ ?_
  · rintro e ρ Pn he ⟨f, s, x3, x4, rfl, hf, hs, hs1, ho⟩ hn
    have hlen := hf.length_eq
    simp only [wpS, wpE, List.getD_cons_zero, List.getD_cons_succ, List.set_cons_zero, List.set_cons_succ, List.length_map, List.length_cons, List.length_nil, wipeD, cmpI, s_asI, s_asB, s_asL, s_asT, s_asS, s_lvI, s_lvB, s_lvL, s_lvT, s_lvN, s_lvS, s_lvX, s_add, s_sub, s_mul, s_fdiv, s_mod, s_pow, s_lenL, s_lenT, s_abs, s_min, s_max, s_sum, s_any, s_all, s_intI, s_intB, s_list, s_listT, s_tupL, s_tupT, s_one, s_many, s_set, s_set0, s_imI, s_imB, s_imN, s_imT, s_nx, s_rt, s_ex, s_t0, s_t1, s_l0, s_l1, s_asD, s_keyI, s_optS, s_seqL, s_seqT, s_lvD, s_isi7, s_isN1, s_isN2, s_isN3, s_isN4, s_isN5, isNil, asO, s_i1, s_i2, s_i3, s_i4, s_i5, s_i6, eqd_int, eqd_bl, true_and, and_true, decide_eq_true_eq, if_true, ite_true, ite_false, Bool.not_eq_true', decide_eq_false_iff_not, Bool.false_eq_true, Bool.not_false, Bool.not_true, not_true_eq_false, Bool.true_eq_false]
    refine ⟨⟨by omega, by omega⟩, ?_⟩
    rw [Int.toNat_natCast]
    refine goFor_rng (fun m ρ => ∃ (f : List Int) (s : Int) (x4 : D), ρ = [tupI ps, LI f, .int s, .int (e : Nat), x4] ∧ f.Perm ps ∧ s * sg f = sg ps ∧ s.natAbs = 1 ∧ (∀ i j, i < j → j < f.length → e + 1 ≤ j → f.getD i 0 ≤ f.getD j 0) ∧ ∀ i, i < m → f.getD i 0 ≤ f.getD m 0) ⟨f, s, _, rfl, hf, hs, hs1, ho, fun i h => by omega⟩ ?_ ?_
    · rintro m ρ Pn2 hm ⟨f, s, x4, rfl, hf, hs, hs1, ho, hx⟩ hn2
      have hlen := hf.length_eq
      have hm1 : m + 1 < f.length := by omega
      simp only [wpS, wpE, List.getD_cons_zero, List.getD_cons_succ, List.set_cons_zero, List.set_cons_succ, List.length_map, List.length_cons, List.length_nil, wipeD, cmpI, s_asI, s_asB, s_asL, s_asT, s_asS, s_lvI, s_lvB, s_lvL, s_lvT, s_lvN, s_lvS, s_lvX, s_add, s_sub, s_mul, s_fdiv, s_mod, s_pow, s_lenL, s_lenT, s_abs, s_min, s_max, s_sum, s_any, s_all, s_intI, s_intB, s_list, s_listT, s_tupL, s_tupT, s_one, s_many, s_set, s_set0, s_imI, s_imB, s_imN, s_imT, s_nx, s_rt, s_ex, s_t0, s_t1, s_l0, s_l1, s_asD, s_keyI, s_optS, s_seqL, s_seqT, s_lvD, s_isi7, s_isN1, s_isN2, s_isN3, s_isN4, s_isN5, isNil, asO, s_i1, s_i2, s_i3, s_i4, s_i5, s_i6, eqd_int, eqd_bl, true_and, and_true, decide_eq_true_eq, if_true, ite_true, ite_false, Bool.not_eq_true', decide_eq_false_iff_not, Bool.false_eq_true, Bool.not_false, Bool.not_true, not_true_eq_false, Bool.true_eq_false]
      refine item_LI (by omega) (by omega) ?_
      refine item_LI (by omega) (by omega) ?_
      rw [Int.toNat_natCast, show ((m : Int) + 1).toNat = m + 1 by omega]
      simp only [wpS, wpE, List.getD_cons_zero, List.getD_cons_succ, List.set_cons_zero, List.set_cons_succ, List.length_map, List.length_cons, List.length_nil, wipeD, cmpI, s_asI, s_asB, s_asL, s_asT, s_asS, s_lvI, s_lvB, s_lvL, s_lvT, s_lvN, s_lvS, s_lvX, s_add, s_sub, s_mul, s_fdiv, s_mod, s_pow, s_lenL, s_lenT, s_abs, s_min, s_max, s_sum, s_any, s_all, s_intI, s_intB, s_list, s_listT, s_tupL, s_tupT, s_one, s_many, s_set, s_set0, s_imI, s_imB, s_imN, s_imT, s_nx, s_rt, s_ex, s_t0, s_t1, s_l0, s_l1, s_asD, s_keyI, s_optS, s_seqL, s_seqT, s_lvD, s_isi7, s_isN1, s_isN2, s_isN3, s_isN4, s_isN5, isNil, asO, s_i1, s_i2, s_i3, s_i4, s_i5, s_i6, eqd_int, eqd_bl, true_and, and_true, decide_eq_true_eq, if_true, ite_true, ite_false, Bool.not_eq_true', decide_eq_false_iff_not, Bool.false_eq_true, Bool.not_false, Bool.not_true, not_true_eq_false, Bool.true_eq_false]
      split
      · rename_i hgt
        refine item_LI (by omega) (by omega) ⟨rfl, ?_⟩
        refine item_LI (by omega) (by omega) ⟨rfl, ?_⟩
        rw [Int.toNat_natCast, show ((m : Int) + 1).toNat = m + 1 by omega]
        refine use_ix (by omega) ?_
        rw [set_mapI]
        simp only [wpS, wpE, List.getD_cons_zero, List.getD_cons_succ, List.set_cons_zero, List.set_cons_succ, List.length_map, List.length_cons, List.length_nil, wipeD, cmpI, s_asI, s_asB, s_asL, s_asT, s_asS, s_lvI, s_lvB, s_lvL, s_lvT, s_lvN, s_lvS, s_lvX, s_add, s_sub, s_mul, s_fdiv, s_mod, s_pow, s_lenL, s_lenT, s_abs, s_min, s_max, s_sum, s_any, s_all, s_intI, s_intB, s_list, s_listT, s_tupL, s_tupT, s_one, s_many, s_set, s_set0, s_imI, s_imB, s_imN, s_imT, s_nx, s_rt, s_ex, s_t0, s_t1, s_l0, s_l1, s_asD, s_keyI, s_optS, s_seqL, s_seqT, s_lvD, s_isi7, s_isN1, s_isN2, s_isN3, s_isN4, s_isN5, isNil, asO, s_i1, s_i2, s_i3, s_i4, s_i5, s_i6, eqd_int, eqd_bl, true_and, and_true, decide_eq_true_eq, if_true, ite_true, ite_false, Bool.not_eq_true', decide_eq_false_iff_not, Bool.false_eq_true, Bool.not_false, Bool.not_true, not_true_eq_false, Bool.true_eq_false]
        refine use_ix1 (by simpa using hm1) ?_
        rw [set_mapI]
        refine hn2 _ ⟨swp f m, -s, _, rfl, (swp_perm hm1).trans hf, by rw [swp_sg hm1, Int.neg_mul_neg, hs], by omega, fun i j h1 h2 h3 => ?_, fun i hi => ?_⟩
        · have hl2 : (swp f m).length = f.length := by unfold swp; simp
          rw [swp_get hm1, swp_get hm1, if_neg (show ¬ j = m + 1 by omega), if_neg (show ¬ j = m by omega)]
          split
          · exact ho m j (by omega) (by omega) h3
          · split
            · exact ho (m + 1) j (by omega) (by omega) h3
            · exact ho i j h1 (by omega) h3
        · rw [swp_get hm1, swp_get hm1, if_neg (show ¬ i = m + 1 by omega), if_pos rfl]
          split
          · omega
          · exact hx i (by omega)
      · rename_i hgt
        refine hn2 _ ⟨f, s, _, rfl, hf, hs, hs1, ho, fun i hi => ?_⟩
        by_cases c : i = m
        · subst c; omega
        · have := hx i (by omega)
          omega
    · rintro ρ ⟨f, s, x4, rfl, hf, hs, hs1, ho, hx⟩
      refine hn _ ⟨f, s, _, _, rfl, hf, hs, hs1, fun i j h1 h2 h3 => ?_⟩
      by_cases c : j = e
      · subst c; exact hx i h1
      · exact ho i j h1 h2 (by omega)
  · rintro ρ ⟨f, s, x3, x4, rfl, hf, hs, hs1, ho⟩
    have hlen := hf.length_eq
    have hso := sorted_of fun i j h1 h2 => ho i j h1 h2 (Nat.zero_le _)
    have ef := srt_uniq hf hso
    simp only [wpS, wpE, List.getD_cons_zero, List.getD_cons_succ, List.set_cons_zero, List.set_cons_succ, List.length_map, List.length_cons, List.length_nil, wipeD, cmpI, s_asI, s_asB, s_asL, s_asT, s_asS, s_lvI, s_lvB, s_lvL, s_lvT, s_lvN, s_lvS, s_lvX, s_add, s_sub, s_mul, s_fdiv, s_mod, s_pow, s_lenL, s_lenT, s_abs, s_min, s_max, s_sum, s_any, s_all, s_intI, s_intB, s_list, s_listT, s_tupL, s_tupT, s_one, s_many, s_set, s_set0, s_imI, s_imB, s_imN, s_imT, s_nx, s_rt, s_ex, s_t0, s_t1, s_l0, s_l1, s_asD, s_keyI, s_optS, s_seqL, s_seqT, s_lvD, s_isi7, s_isN1, s_isN2, s_isN3, s_isN4, s_isN5, isNil, asO, s_i1, s_i2, s_i3, s_i4, s_i5, s_i6, eqd_int, eqd_bl, true_and, and_true, decide_eq_true_eq, if_true, ite_true, ite_false, Bool.not_eq_true', decide_eq_false_iff_not, Bool.false_eq_true, Bool.not_false, Bool.not_true, not_true_eq_false, Bool.true_eq_false]
    refine ⟨⟨⟨by decide, by decide⟩, ⟨by omega, by omega⟩⟩, ?_⟩
    refine goFor_rng (fun m ρ => ∃ (s' : Int) (x3 x4 : D), ρ = [tupI ps, LI f, .int s', x3, x4] ∧ ((s' = s ∧ ∀ i, i < m → f.getD i 0 ≠ f.getD (i + 1) 0) ∨ (s' = 0 ∧ ∃ i, i + 1 < f.length ∧ f.getD i 0 = f.getD (i + 1) 0))) ⟨s, _, _, rfl, .inl ⟨rfl, fun i h => by omega⟩⟩ ?_ ?_
    · rintro m ρ Pn hm ⟨s', x3, x4, rfl, hc⟩ hn
      have hm1 : m + 1 < f.length := by omega
      simp only [wpS, wpE, List.getD_cons_zero, List.getD_cons_succ, List.set_cons_zero, List.set_cons_succ, List.length_map, List.length_cons, List.length_nil, wipeD, cmpI, s_asI, s_asB, s_asL, s_asT, s_asS, s_lvI, s_lvB, s_lvL, s_lvT, s_lvN, s_lvS, s_lvX, s_add, s_sub, s_mul, s_fdiv, s_mod, s_pow, s_lenL, s_lenT, s_abs, s_min, s_max, s_sum, s_any, s_all, s_intI, s_intB, s_list, s_listT, s_tupL, s_tupT, s_one, s_many, s_set, s_set0, s_imI, s_imB, s_imN, s_imT, s_nx, s_rt, s_ex, s_t0, s_t1, s_l0, s_l1, s_asD, s_keyI, s_optS, s_seqL, s_seqT, s_lvD, s_isi7, s_isN1, s_isN2, s_isN3, s_isN4, s_isN5, isNil, asO, s_i1, s_i2, s_i3, s_i4, s_i5, s_i6, eqd_int, eqd_bl, true_and, and_true, decide_eq_true_eq, if_true, ite_true, ite_false, Bool.not_eq_true', decide_eq_false_iff_not, Bool.false_eq_true, Bool.not_false, Bool.not_true, not_true_eq_false, Bool.true_eq_false]
      refine item_LI (by omega) (by omega) ?_
      refine item_LI (by omega) (by omega) ?_
      rw [show ((1 : Int) + (m : Nat) - 1).toNat = m by omega, show ((1 : Int) + (m : Nat)).toNat = m + 1 by omega]
      simp only [wpS, wpE, List.getD_cons_zero, List.getD_cons_succ, List.set_cons_zero, List.set_cons_succ, List.length_map, List.length_cons, List.length_nil, wipeD, cmpI, s_asI, s_asB, s_asL, s_asT, s_asS, s_lvI, s_lvB, s_lvL, s_lvT, s_lvN, s_lvS, s_lvX, s_add, s_sub, s_mul, s_fdiv, s_mod, s_pow, s_lenL, s_lenT, s_abs, s_min, s_max, s_sum, s_any, s_all, s_intI, s_intB, s_list, s_listT, s_tupL, s_tupT, s_one, s_many, s_set, s_set0, s_imI, s_imB, s_imN, s_imT, s_nx, s_rt, s_ex, s_t0, s_t1, s_l0, s_l1, s_asD, s_keyI, s_optS, s_seqL, s_seqT, s_lvD, s_isi7, s_isN1, s_isN2, s_isN3, s_isN4, s_isN5, isNil, asO, s_i1, s_i2, s_i3, s_i4, s_i5, s_i6, eqd_int, eqd_bl, true_and, and_true, decide_eq_true_eq, if_true, ite_true, ite_false, Bool.not_eq_true', decide_eq_false_iff_not, Bool.false_eq_true, Bool.not_false, Bool.not_true, not_true_eq_false, Bool.true_eq_false]
      split
      · rename_i heq
        exact hn _ ⟨0, _, _, rfl, .inr ⟨rfl, m, hm1, heq⟩⟩
      · rename_i hne
        refine hn _ ⟨s', _, _, rfl, ?_⟩
        rcases hc with ⟨h1, h2⟩ | h
        · refine .inl ⟨h1, fun i hi => ?_⟩
          by_cases c : i = m
          · subst c; exact hne
          · exact h2 i (by omega)
        · exact .inr h
    · rintro ρ ⟨s', x3, x4, rfl, hc⟩
      simp only [wpS, wpE, List.getD_cons_zero, List.getD_cons_succ, List.set_cons_zero, List.set_cons_succ, List.length_map, List.length_cons, List.length_nil, wipeD, cmpI, s_asI, s_asB, s_asL, s_asT, s_asS, s_lvI, s_lvB, s_lvL, s_lvT, s_lvN, s_lvS, s_lvX, s_add, s_sub, s_mul, s_fdiv, s_mod, s_pow, s_lenL, s_lenT, s_abs, s_min, s_max, s_sum, s_any, s_all, s_intI, s_intB, s_list, s_listT, s_tupL, s_tupT, s_one, s_many, s_set, s_set0, s_imI, s_imB, s_imN, s_imT, s_nx, s_rt, s_ex, s_t0, s_t1, s_l0, s_l1, s_asD, s_keyI, s_optS, s_seqL, s_seqT, s_lvD, s_isi7, s_isN1, s_isN2, s_isN3, s_isN4, s_isN5, isNil, asO, s_i1, s_i2, s_i3, s_i4, s_i5, s_i6, eqd_int, eqd_bl, true_and, and_true, decide_eq_true_eq, if_true, ite_true, ite_false, Bool.not_eq_true', decide_eq_false_iff_not, Bool.false_eq_true, Bool.not_false, Bool.not_true, not_true_eq_false, Bool.true_eq_false]
      refine ⟨fun _ => imms_map _, ?_⟩
      have es : s' = sg ps := by
        rcases hc with ⟨h1, h2⟩ | ⟨h1, i, hi, he⟩
        · have nd : f.Nodup := by
            have : f.Pairwise (· < ·) := by
              refine List.pairwise_iff_getElem.mpr fun i j hi hj hij => ?_
              have a1 := ho i (i + 1) (by omega) (by omega) (by omega)
              have a2 := h2 i (by omega)
              have a3 : f.getD (i + 1) 0 ≤ f.getD j 0 := by
                by_cases c : i + 1 = j
                · rw [c]; exact Int.le_refl _
                · exact ho (i + 1) j (by omega) hj (by omega)
              rw [getD_get hi, getD_get (show i + 1 < f.length by omega)] at a1 a2
              rw [getD_get hj, getD_get (show i + 1 < f.length by omega)] at a3
              omega
            exact Asc.nodup this
          have asc : Asc f := by
            rw [ef]
            rw [ef] at nd
            exact srt_nodup ((srt_perm ps).nodup_iff.mp nd)
          rw [h1, ← hs, sg_asc asc, Int.mul_one]
        · have nd : ¬ f.Nodup := fun nd => by
            rw [getD_get (show i < f.length by omega), getD_get hi] at he
            exact List.pairwise_iff_getElem.mp nd i (i + 1) (by omega) hi (by omega) he
          rw [h1, ← hs, sg_zero nd, Int.mul_zero]
      rw [es, ef]
      exact hq
def sem_summed : FSem := fun ds Q _ => ∃ ts : List Tm, ds = [tms ts] ∧ okT ts ∧ Q (tms (gath ts))
theorem wp_summed {Ω : Str → FSem} (h : Ω "ordered" = sem_ordered) : ∀ ds Q X, ds.length = P_summed.length → sem_summed ds Q X → wpS Ω ci0 ir_summed (holesTo ds N_summed.length) (poOf Q X) := by
  rintro ds Q X _ ⟨ts, rfl, ⟨hl, hp⟩, hq⟩
  show wpS Ω _ ir_summed [tms ts, .hole, .hole, .hole, .hole, .hole] (poOf Q X)
  unfold ir_summed
  simp only [wpS, wpE, List.getD_cons_zero, List.getD_cons_succ, List.set_cons_zero, List.set_cons_succ, List.length_map, List.length_cons, List.length_nil, wipeD, cmpI, s_asI, s_asB, s_asL, s_asT, s_asS, s_lvI, s_lvB, s_lvL, s_lvT, s_lvN, s_lvS, s_lvX, s_add, s_sub, s_mul, s_fdiv, s_mod, s_pow, s_lenL, s_lenT, s_abs, s_min, s_max, s_sum, s_any, s_all, s_intI, s_intB, s_list, s_listT, s_tupL, s_tupT, s_one, s_many, s_set, s_set0, s_imI, s_imB, s_imN, s_imT, s_nx, s_rt, s_ex, s_t0, s_t1, s_l0, s_l1, s_asD, s_keyI, s_optS, s_seqL, s_seqT, s_lvD, s_isi7, s_isN1, s_isN2, s_isN3, s_isN4, s_isN5, isNil, asO, s_i1, s_i2, s_i3, s_i4, s_i5, s_i6, eqd_int, eqd_bl, true_and, and_true, decide_eq_true_eq, if_true, ite_true, ite_false, Bool.not_eq_true', decide_eq_false_iff_not, Bool.false_eq_true, Bool.not_false, Bool.not_true, not_true_eq_false, Bool.true_eq_false, h]
  refine goFor_of (fun us ρ => ∃ x2 x3 x4 x5, ρ = [tms ts, .dct (dic us), x2, x3, x4, x5]) ⟨_, _, _, _, rfl⟩ ?_ ?_
  · rintro us ⟨ps, n⟩ zs ρ Pn hs ⟨x2, x3, x4, x5, rfl⟩ hn
    have ht : ((ps, n) : Tm) ∈ ts := by rw [hs]; simp
    simp only [wpS, wpE, List.getD_cons_zero, List.getD_cons_succ, List.set_cons_zero, List.set_cons_succ, List.length_map, List.length_cons, List.length_nil, wipeD, cmpI, s_asI, s_asB, s_asL, s_asT, s_asS, s_lvI, s_lvB, s_lvL, s_lvT, s_lvN, s_lvS, s_lvX, s_add, s_sub, s_mul, s_fdiv, s_mod, s_pow, s_lenL, s_lenT, s_abs, s_min, s_max, s_sum, s_any, s_all, s_intI, s_intB, s_list, s_listT, s_tupL, s_tupT, s_one, s_many, s_set, s_set0, s_imI, s_imB, s_imN, s_imT, s_nx, s_rt, s_ex, s_t0, s_t1, s_l0, s_l1, s_asD, s_keyI, s_optS, s_seqL, s_seqT, s_lvD, s_isi7, s_isN1, s_isN2, s_isN3, s_isN4, s_isN5, isNil, asO, s_i1, s_i2, s_i3, s_i4, s_i5, s_i6, eqd_int, eqd_bl, true_and, and_true, decide_eq_true_eq, if_true, ite_true, ite_false, Bool.not_eq_true', decide_eq_false_iff_not, Bool.false_eq_true, Bool.not_false, Bool.not_true, not_true_eq_false, Bool.true_eq_false]
    refine ⟨ps, rfl, hp _ ht, ?_⟩
    simp only [wpS, wpE, List.getD_cons_zero, List.getD_cons_succ, List.set_cons_zero, List.set_cons_succ, List.length_map, List.length_cons, List.length_nil, wipeD, cmpI, s_asI, s_asB, s_asL, s_asT, s_asS, s_lvI, s_lvB, s_lvL, s_lvT, s_lvN, s_lvS, s_lvX, s_add, s_sub, s_mul, s_fdiv, s_mod, s_pow, s_lenL, s_lenT, s_abs, s_min, s_max, s_sum, s_any, s_all, s_intI, s_intB, s_list, s_listT, s_tupL, s_tupT, s_one, s_many, s_set, s_set0, s_imI, s_imB, s_imN, s_imT, s_nx, s_rt, s_ex, s_t0, s_t1, s_l0, s_l1, s_asD, s_keyI, s_optS, s_seqL, s_seqT, s_lvD, s_isi7, s_isN1, s_isN2, s_isN3, s_isN4, s_isN5, isNil, asO, s_i1, s_i2, s_i3, s_i4, s_i5, s_i6, eqd_int, eqd_bl, true_and, and_true, decide_eq_true_eq, if_true, ite_true, ite_false, Bool.not_eq_true', decide_eq_false_iff_not, Bool.false_eq_true, Bool.not_false, Bool.not_true, not_true_eq_false, Bool.true_eq_false]
    have := sg_le ps
    refine ⟨mulok_l (by omega), ?_, hn _ ⟨_, _, _, _, by rw [dic_snoc]; rfl⟩⟩
    have := dic_len us
    have : us.length ≤ ts.length := by rw [hs]; simp
    unfold LIM; omega
  · rintro ρ ⟨x2, x3, x4, x5, rfl⟩
    simp only [wpS, wpE, List.getD_cons_zero, List.getD_cons_succ, List.set_cons_zero, List.set_cons_succ, List.length_map, List.length_cons, List.length_nil, wipeD, cmpI, s_asI, s_asB, s_asL, s_asT, s_asS, s_lvI, s_lvB, s_lvL, s_lvT, s_lvN, s_lvS, s_lvX, s_add, s_sub, s_mul, s_fdiv, s_mod, s_pow, s_lenL, s_lenT, s_abs, s_min, s_max, s_sum, s_any, s_all, s_intI, s_intB, s_list, s_listT, s_tupL, s_tupT, s_one, s_many, s_set, s_set0, s_imI, s_imB, s_imN, s_imT, s_nx, s_rt, s_ex, s_t0, s_t1, s_l0, s_l1, s_asD, s_keyI, s_optS, s_seqL, s_seqT, s_lvD, s_isi7, s_isN1, s_isN2, s_isN3, s_isN4, s_isN5, isNil, asO, s_i1, s_i2, s_i3, s_i4, s_i5, s_i6, eqd_int, eqd_bl, true_and, and_true, decide_eq_true_eq, if_true, ite_true, ite_false, Bool.not_eq_true', decide_eq_false_iff_not, Bool.false_eq_true, Bool.not_false, Bool.not_true, not_true_eq_false, Bool.true_eq_false]
    refine ⟨Nat.le_trans (dic_len ts) (by unfold LIM; omega), ?_⟩
    refine goLC_ofF (g := fun p : Tm => .tup [tupI p.1, .int p.2]) (xs := dic ts) (p := fun t => decide (t.2 ≠ 0)) (f := tmD) (fun t ht R S r => by simp only [wpS, wpE, List.getD_cons_zero, List.getD_cons_succ, List.set_cons_zero, List.set_cons_succ, List.length_map, List.length_cons, List.length_nil, wipeD, cmpI, s_asI, s_asB, s_asL, s_asT, s_asS, s_lvI, s_lvB, s_lvL, s_lvT, s_lvN, s_lvS, s_lvX, s_add, s_sub, s_mul, s_fdiv, s_mod, s_pow, s_lenL, s_lenT, s_abs, s_min, s_max, s_sum, s_any, s_all, s_intI, s_intB, s_list, s_listT, s_tupL, s_tupT, s_one, s_many, s_set, s_set0, s_imI, s_imB, s_imN, s_imT, s_nx, s_rt, s_ex, s_t0, s_t1, s_l0, s_l1, s_asD, s_keyI, s_optS, s_seqL, s_seqT, s_lvD, s_isi7, s_isN1, s_isN2, s_isN3, s_isN4, s_isN5, isNil, asO, s_i1, s_i2, s_i3, s_i4, s_i5, s_i6, eqd_int, eqd_bl, true_and, and_true, decide_eq_true_eq, if_true, ite_true, ite_false, Bool.not_eq_true', decide_eq_false_iff_not, Bool.false_eq_true, Bool.not_false, Bool.not_true, not_true_eq_false, Bool.true_eq_false]; simpa [imms_map] using r) ?_
    exact s_srtT hq
/-! ### drawn sums -/
def rangeI (n : Nat) : List Int := (List.range n).map fun k : Nat => (k : Int)
theorem map_range_int (n : Nat) : (List.range n).map (fun k => D.int (k : Nat)) = (rangeI n).map D.int := by
  unfold rangeI
  rw [List.map_map]; rfl
/-- what is drawn: some of many, each at most once -/
structure Drawn (n : Nat) (m : Nat) (l : List Int) : Prop where
  len : l.length = m
  nd : l.Nodup
  rg : ∀ w ∈ l, 0 ≤ w ∧ w < n
theorem rangeI_nodup (n : Nat) : (rangeI n).Nodup := by
  unfold rangeI
  refine List.Pairwise.map _ (fun a b h => ?_) List.nodup_range
  intro e
  exact h (by omega)
theorem rangeI_mem {n : Nat} {w : Int} : w ∈ rangeI n ↔ 0 ≤ w ∧ w < n := by
  unfold rangeI
  rw [List.mem_map]
  constructor
  · rintro ⟨k, hk, rfl⟩
    have := List.mem_range.mp hk
    omega
  · rintro ⟨h1, h2⟩
    exact ⟨w.toNat, List.mem_range.mpr (by omega), by omega⟩
theorem rangeI_len (n : Nat) : (rangeI n).length = n := by unfold rangeI; simp
theorem map_erase {α β : Type} (f : α → β) : ∀ (l : List α) (j : Nat), (l.map f).eraseIdx j = (l.eraseIdx j).map f
  | [], _ => rfl
  | _ :: _, 0 => rfl
  | a :: l, j + 1 => by
    show f a :: (l.map f).eraseIdx j = f a :: (l.eraseIdx j).map f
    rw [map_erase f l j]
theorem use_pop {left : List Int} {j : Int} {K : D → Dat → Prop} (h0 : 0 ≤ j) (h1 : j < left.length) (hs : left.length ≤ 1000) (q : K (.int (left.getD j.toNat 0)) ((left.eraseIdx j.toNat).map D.int)) : popD (left.map D.int) (some j) K := by
  refine ⟨⟨by omega, by omega⟩, ?_⟩
  have : ixN (left.map D.int).length j = some j.toNat := by
    unfold ixN
    rw [if_pos h0, if_pos (by rw [List.length_map]; exact h1)]
  rw [this]
  show optG (left.map D.int)[j.toNat]? _
  rw [getD_int left j.toNat (by omega)]
  show K _ ((left.map D.int).eraseIdx j.toNat)
  have e : (left.map D.int).eraseIdx j.toNat = (left.eraseIdx j.toNat).map D.int := by
    exact map_erase _ _ _
  rw [e]
  exact q
theorem erase_perm {left : List Int} {j : Nat} (h : j < left.length) : (left.getD j 0 :: left.eraseIdx j).Perm left := cons_erase (by rw [List.getD_eq_getElem?_getD, List.getElem?_eq_getElem h]; rfl)
theorem drawn_step {n : Nat} {found left : List Int} {j : Nat} (h : (found ++ left).Perm (rangeI n)) (hj : j < left.length) : ((found ++ [left.getD j 0]) ++ left.eraseIdx j).Perm (rangeI n) := by
  refine List.Perm.trans ?_ h
  rw [List.append_assoc]
  exact List.Perm.append_left _ (erase_perm hj)
theorem drawn_of {n m : Nat} {found left : List Int} (h : (found ++ left).Perm (rangeI n)) (hl : found.length = m) : Drawn n m found := by
  have nd := h.nodup_iff.mpr (rangeI_nodup n)
  exact ⟨hl, (List.nodup_append.mp nd).1, fun w hw => rangeI_mem.mp (h.mem_iff.mp (List.mem_append_left _ hw))⟩
def sem__law_chosen : FSem := fun ds Q _ => ∃ (cell : Int) (far n m : Nat), ds = [.int cell, .int far, .int n, .int m] ∧ far ≤ 1000 ∧ m ≤ n ∧ n ≤ 12 ∧ ∀ l, Drawn n m l → Q (tupI l)
theorem wp__law_chosen {Ω : Str → FSem} (h : Ω "_law_thing" = sem__law_thing) : ∀ ds Q X, ds.length = P__law_chosen.length → sem__law_chosen ds Q X → wpS Ω ci0 ir__law_chosen (holesTo ds N__law_chosen.length) (poOf Q X) := by
  rintro ds Q X _ ⟨cell, far, n, m, rfl, hf, hm, hn, hq⟩
  show wpS Ω _ ir__law_chosen [.int cell, .int far, .int n, .int m, .hole, .hole, .hole] (poOf Q X)
  unfold ir__law_chosen
  simp only [wpS, wpE, List.getD_cons_zero, List.getD_cons_succ, List.set_cons_zero, List.set_cons_succ, List.length_map, List.length_cons, List.length_nil, wipeD, cmpI, s_asI, s_asB, s_asL, s_asT, s_asS, s_lvI, s_lvB, s_lvL, s_lvT, s_lvN, s_lvS, s_lvX, s_add, s_sub, s_mul, s_fdiv, s_mod, s_pow, s_lenL, s_lenT, s_abs, s_min, s_max, s_sum, s_any, s_all, s_intI, s_intB, s_list, s_listT, s_tupL, s_tupT, s_one, s_many, s_set, s_set0, s_imI, s_imB, s_imN, s_imT, s_nx, s_rt, s_ex, s_t0, s_t1, s_l0, s_l1, s_asD, s_keyI, s_optS, s_seqL, s_seqT, s_lvD, s_isi7, s_isN1, s_isN2, s_isN3, s_isN4, s_isN5, isNil, asO, s_i1, s_i2, s_i3, s_i4, s_i5, s_i6, eqd_int, eqd_bl, true_and, and_true, decide_eq_true_eq, if_true, ite_true, ite_false, Bool.not_eq_true', decide_eq_false_iff_not, Bool.false_eq_true, Bool.not_false, Bool.not_true, not_true_eq_false, Bool.true_eq_false, h]
  refine ⟨⟨⟨by omega, by omega⟩, by unfold LIM; omega⟩, ⟨by omega, by omega⟩, ?_⟩
  rw [Int.toNat_natCast, Int.toNat_natCast]
  refine goFor_rng (fun k ρ => ∃ (found left : List Int) (x6 : D), ρ = [.int cell, .int far, .int n, .int m, LI left, LI found, x6] ∧ (found ++ left).Perm (rangeI n) ∧ found.length = k) ⟨[], rangeI n, _, by rw [LI, ← map_range_int]; rfl, List.Perm.refl _, rfl⟩ ?_ ?_
  · rintro k ρ Pn hk ⟨found, left, x6, rfl, hp, hl⟩ hn2
    have h1 := hp.length_eq
    rw [List.length_append, rangeI_len] at h1
    simp only [wpS, wpE, List.getD_cons_zero, List.getD_cons_succ, List.set_cons_zero, List.set_cons_succ, List.length_map, List.length_cons, List.length_nil, wipeD, cmpI, s_asI, s_asB, s_asL, s_asT, s_asS, s_lvI, s_lvB, s_lvL, s_lvT, s_lvN, s_lvS, s_lvX, s_add, s_sub, s_mul, s_fdiv, s_mod, s_pow, s_lenL, s_lenT, s_abs, s_min, s_max, s_sum, s_any, s_all, s_intI, s_intB, s_list, s_listT, s_tupL, s_tupT, s_one, s_many, s_set, s_set0, s_imI, s_imB, s_imN, s_imT, s_nx, s_rt, s_ex, s_t0, s_t1, s_l0, s_l1, s_asD, s_keyI, s_optS, s_seqL, s_seqT, s_lvD, s_isi7, s_isN1, s_isN2, s_isN3, s_isN4, s_isN5, isNil, asO, s_i1, s_i2, s_i3, s_i4, s_i5, s_i6, eqd_int, eqd_bl, true_and, and_true, decide_eq_true_eq, if_true, ite_true, ite_false, Bool.not_eq_true', decide_eq_false_iff_not, Bool.false_eq_true, Bool.not_false, Bool.not_true, not_true_eq_false, Bool.true_eq_false]
    refine ⟨cell, (far : Int) + (k : Nat), left.length, rfl, by omega, by omega, by omega, ?_⟩
    have b := lawThing_bd (cell := cell) (k := (far : Int) + (k : Nat)) (many := left.length) (by omega)
    generalize lawThing cell ((far : Int) + (k : Nat)) left.length = j at b
    simp only [wpS, wpE, List.getD_cons_zero, List.getD_cons_succ, List.set_cons_zero, List.set_cons_succ, List.length_map, List.length_cons, List.length_nil, wipeD, cmpI, s_asI, s_asB, s_asL, s_asT, s_asS, s_lvI, s_lvB, s_lvL, s_lvT, s_lvN, s_lvS, s_lvX, s_add, s_sub, s_mul, s_fdiv, s_mod, s_pow, s_lenL, s_lenT, s_abs, s_min, s_max, s_sum, s_any, s_all, s_intI, s_intB, s_list, s_listT, s_tupL, s_tupT, s_one, s_many, s_set, s_set0, s_imI, s_imB, s_imN, s_imT, s_nx, s_rt, s_ex, s_t0, s_t1, s_l0, s_l1, s_asD, s_keyI, s_optS, s_seqL, s_seqT, s_lvD, s_isi7, s_isN1, s_isN2, s_isN3, s_isN4, s_isN5, isNil, asO, s_i1, s_i2, s_i3, s_i4, s_i5, s_i6, eqd_int, eqd_bl, true_and, and_true, decide_eq_true_eq, if_true, ite_true, ite_false, Bool.not_eq_true', decide_eq_false_iff_not, Bool.false_eq_true, Bool.not_false, Bool.not_true, not_true_eq_false, Bool.true_eq_false]
    refine use_pop b.1 b.2 (by omega) ?_
    refine ⟨by unfold LIM; omega, ?_⟩
    rw [LI_snoc]
    exact hn2 _ ⟨_, _, _, rfl, drawn_step hp (by omega), by simp [hl]⟩
  · rintro ρ ⟨found, left, x6, rfl, hp, hl⟩
    simp only [wpS, wpE, List.getD_cons_zero, List.getD_cons_succ, List.set_cons_zero, List.set_cons_succ, List.length_map, List.length_cons, List.length_nil, wipeD, cmpI, s_asI, s_asB, s_asL, s_asT, s_asS, s_lvI, s_lvB, s_lvL, s_lvT, s_lvN, s_lvS, s_lvX, s_add, s_sub, s_mul, s_fdiv, s_mod, s_pow, s_lenL, s_lenT, s_abs, s_min, s_max, s_sum, s_any, s_all, s_intI, s_intB, s_list, s_listT, s_tupL, s_tupT, s_one, s_many, s_set, s_set0, s_imI, s_imB, s_imN, s_imT, s_nx, s_rt, s_ex, s_t0, s_t1, s_l0, s_l1, s_asD, s_keyI, s_optS, s_seqL, s_seqT, s_lvD, s_isi7, s_isN1, s_isN2, s_isN3, s_isN4, s_isN5, isNil, asO, s_i1, s_i2, s_i3, s_i4, s_i5, s_i6, eqd_int, eqd_bl, true_and, and_true, decide_eq_true_eq, if_true, ite_true, ite_false, Bool.not_eq_true', decide_eq_false_iff_not, Bool.false_eq_true, Bool.not_false, Bool.not_true, not_true_eq_false, Bool.true_eq_false]
    exact ⟨fun _ => imms_map _, hq _ (drawn_of hp hl)⟩
def sem__law_digit_term : FSem := fun ds Q _ => ∃ (cell : Int) (n m : Nat), ds = [.int cell, .int n, .int m] ∧ m ≤ n ∧ n ≤ 12 ∧ ∀ l v, Drawn n m l → v.natAbs ≤ 10 ^ 9 → Q (tmD (l, v))
theorem wp__law_digit_term {Ω : Str → FSem} : ∀ ds Q X, ds.length = P__law_digit_term.length → sem__law_digit_term ds Q X → wpS Ω ci0 ir__law_digit_term (holesTo ds N__law_digit_term.length) (poOf Q X) := by
  rintro ds Q X _ ⟨cell, n, m, rfl, hm, hn, hq⟩
  show wpS Ω _ ir__law_digit_term [.int cell, .int n, .int m, .hole, .hole, .hole, .hole] (poOf Q X)
  unfold ir__law_digit_term
  simp only [wpS, wpE, List.getD_cons_zero, List.getD_cons_succ, List.set_cons_zero, List.set_cons_succ, List.length_map, List.length_cons, List.length_nil, wipeD, cmpI, s_asI, s_asB, s_asL, s_asT, s_asS, s_lvI, s_lvB, s_lvL, s_lvT, s_lvN, s_lvS, s_lvX, s_add, s_sub, s_mul, s_fdiv, s_mod, s_pow, s_lenL, s_lenT, s_abs, s_min, s_max, s_sum, s_any, s_all, s_intI, s_intB, s_list, s_listT, s_tupL, s_tupT, s_one, s_many, s_set, s_set0, s_imI, s_imB, s_imN, s_imT, s_nx, s_rt, s_ex, s_t0, s_t1, s_l0, s_l1, s_asD, s_keyI, s_optS, s_seqL, s_seqT, s_lvD, s_isi7, s_isN1, s_isN2, s_isN3, s_isN4, s_isN5, isNil, asO, s_i1, s_i2, s_i3, s_i4, s_i5, s_i6, eqd_int, eqd_bl, true_and, and_true, decide_eq_true_eq, if_true, ite_true, ite_false, Bool.not_eq_true', decide_eq_false_iff_not, Bool.false_eq_true, Bool.not_false, Bool.not_true, not_true_eq_false, Bool.true_eq_false]
  refine ⟨⟨⟨by omega, by omega⟩, by unfold LIM; omega⟩, ⟨by omega, by omega⟩, ?_⟩
  rw [Int.toNat_natCast, Int.toNat_natCast]
  refine goFor_rng (fun k ρ => ∃ (cell : Int) (found left : List Int) (x5 x6 : D), ρ = [.int cell, .int n, .int m, LI left, LI found, x5, x6] ∧ (found ++ left).Perm (rangeI n) ∧ found.length = k) ⟨cell, [], rangeI n, _, _, by rw [LI, ← map_range_int]; rfl, List.Perm.refl _, rfl⟩ ?_ ?_
  · rintro k ρ Pn hk ⟨cell, found, left, x5, x6, rfl, hp, hl⟩ hn2
    have h1 := hp.length_eq
    rw [List.length_append, rangeI_len] at h1
    simp only [wpS, wpE, List.getD_cons_zero, List.getD_cons_succ, List.set_cons_zero, List.set_cons_succ, List.length_map, List.length_cons, List.length_nil, wipeD, cmpI, s_asI, s_asB, s_asL, s_asT, s_asS, s_lvI, s_lvB, s_lvL, s_lvT, s_lvN, s_lvS, s_lvX, s_add, s_sub, s_mul, s_fdiv, s_mod, s_pow, s_lenL, s_lenT, s_abs, s_min, s_max, s_sum, s_any, s_all, s_intI, s_intB, s_list, s_listT, s_tupL, s_tupT, s_one, s_many, s_set, s_set0, s_imI, s_imB, s_imN, s_imT, s_nx, s_rt, s_ex, s_t0, s_t1, s_l0, s_l1, s_asD, s_keyI, s_optS, s_seqL, s_seqT, s_lvD, s_isi7, s_isN1, s_isN2, s_isN3, s_isN4, s_isN5, isNil, asO, s_i1, s_i2, s_i3, s_i4, s_i5, s_i6, eqd_int, eqd_bl, true_and, and_true, decide_eq_true_eq, if_true, ite_true, ite_false, Bool.not_eq_true', decide_eq_false_iff_not, Bool.false_eq_true, Bool.not_false, Bool.not_true, not_true_eq_false, Bool.true_eq_false]
    refine ⟨by omega, divok_small (by omega) (by omega), ?_⟩
    refine use_pop (fm_nn _ (by omega)) (Int.fmod_lt_of_pos _ (by omega)) (by omega) ?_
    refine ⟨by unfold LIM; omega, ?_⟩
    rw [LI_snoc]
    have b := Int.fmod_lt_of_pos cell (show (0 : Int) < left.length by omega)
    have b0 := fm_nn cell (show (0 : Int) < left.length by omega)
    exact hn2 _ ⟨_, _, _, _, _, rfl, drawn_step hp (by omega), by simp [hl]⟩
  · rintro ρ ⟨cell, found, left, x5, x6, rfl, hp, hl⟩
    simp only [wpS, wpE, List.getD_cons_zero, List.getD_cons_succ, List.set_cons_zero, List.set_cons_succ, List.length_map, List.length_cons, List.length_nil, wipeD, cmpI, s_asI, s_asB, s_asL, s_asT, s_asS, s_lvI, s_lvB, s_lvL, s_lvT, s_lvN, s_lvS, s_lvX, s_add, s_sub, s_mul, s_fdiv, s_mod, s_pow, s_lenL, s_lenT, s_abs, s_min, s_max, s_sum, s_any, s_all, s_intI, s_intB, s_list, s_listT, s_tupL, s_tupT, s_one, s_many, s_set, s_set0, s_imI, s_imB, s_imN, s_imT, s_nx, s_rt, s_ex, s_t0, s_t1, s_l0, s_l1, s_asD, s_keyI, s_optS, s_seqL, s_seqT, s_lvD, s_isi7, s_isN1, s_isN2, s_isN3, s_isN4, s_isN5, isNil, asO, s_i1, s_i2, s_i3, s_i4, s_i5, s_i6, eqd_int, eqd_bl, true_and, and_true, decide_eq_true_eq, if_true, ite_true, ite_false, Bool.not_eq_true', decide_eq_false_iff_not, Bool.false_eq_true, Bool.not_false, Bool.not_true, not_true_eq_false, Bool.true_eq_false]
    refine ⟨fun _ => imms_map _, ⟨by decide, by decide, by decide⟩, mulok_l (by decide), by decide, ⟨by decide, by decide, by decide⟩, hq found _ (drawn_of hp hl) ?_⟩
    have h2 := fm_nn cell (show (0 : Int) < 2 * 10 ^ 9 + 1 by decide)
    have h3 := Int.fmod_lt_of_pos cell (show (0 : Int) < 2 * 10 ^ 9 + 1 by decide)
    have e : (10 : Int) ^ (9 : Int).toNat = 1000000000 := by decide
    have e2 : (10 : Int) ^ 9 = 1000000000 := by decide
    have e3 : (10 : Nat) ^ 9 = 1000000000 := by decide
    rw [e]
    rw [e2] at h2 h3
    rw [e3]
    omega
/-- terms of a size, as they are drawn -/
structure DrT (n m : Nat) (ts : List Tm) : Prop where
  pl : ∀ t ∈ ts, Drawn n m t.1
  bd : ∀ t ∈ ts, t.2.natAbs ≤ 10 ^ 9
theorem DrT.snoc {n m : Nat} {ts : List Tm} {t : Tm} (h : DrT n m ts) (h1 : Drawn n m t.1) (h2 : t.2.natAbs ≤ 10 ^ 9) : DrT n m (ts ++ [t]) := by
  refine ⟨fun u hu => ?_, fun u hu => ?_⟩
  · rcases List.mem_append.mp hu with z | z
    · exact h.pl u z
    · rw [List.mem_singleton.mp z]; exact h1
  · rcases List.mem_append.mp hu with z | z
    · exact h.bd u z
    · rw [List.mem_singleton.mp z]; exact h2
theorem tms_snoc (ts : List Tm) (t : Tm) : ts.map tmD ++ [tmD t] = (ts ++ [t]).map tmD := by simp
/-- .. brought together -/
structure DrS (n m c : Nat) (s : List Tm) : Prop where
  can : Can s
  len : s.length ≤ c
  size : ∀ t ∈ s, t.1.length = m
  rg : ∀ t ∈ s, ∀ w ∈ t.1, 0 ≤ w ∧ w < n
  bd : ∀ t ∈ s, t.2.natAbs ≤ c * 10 ^ 9
theorem natAbs_sum_le {B : Nat} : ∀ {l : List Int}, (∀ x ∈ l, x.natAbs ≤ B) → l.sum.natAbs ≤ l.length * B
  | [], _ => by simp
  | x :: l, h => by
    have h1 := h x List.mem_cons_self
    have h2 := natAbs_sum_le fun y hy => h y (List.mem_cons_of_mem _ hy)
    rw [List.sum_cons, List.length_cons, Nat.succ_mul]
    omega
theorem co_bd {ts : List Tm} {B : Nat} (h : ∀ t ∈ ts, t.2.natAbs ≤ B) (k : List Int) : (co ts k).natAbs ≤ ts.length * B := by
  unfold co
  have := natAbs_sum_le (B := B) (l := ts.map fun t => if srt t.1 = k then sg t.1 * t.2 else 0) fun x hx => by
    obtain ⟨t, ht, rfl⟩ := List.mem_map.mp hx
    have h1 := h t ht
    have h2 := sg_le t.1
    split
    · rw [Int.natAbs_mul]
      have : (sg t.1).natAbs = 0 ∨ (sg t.1).natAbs = 1 := by omega
      rcases this with e | e <;> rw [e] <;> omega
    · simp
  rwa [List.length_map] at this
theorem gath_bd {ts : List Tm} {B : Nat} (h : ∀ t ∈ ts, t.2.natAbs ≤ B) : ∀ t ∈ gath ts, t.2.natAbs ≤ ts.length * B := fun t ht => by
  have := (gath_mem.mp ht).2
  rw [← this]
  exact co_bd h t.1
theorem DrT.sum {n m c : Nat} {ts : List Tm} (h : DrT n m ts) (hc : ts.length ≤ c) : DrS n m c (gath ts) where
  can := gath_can ts
  len := Nat.le_trans (gath_len ts) hc
  size := gath_size fun t ht => (h.pl t ht).len
  rg := gath_all fun t ht => (h.pl t ht).rg
  bd t ht := Nat.le_trans (gath_bd h.bd t ht) (Nat.mul_le_mul_right _ hc)
def sem__law_drawn_sum : FSem := fun ds Q _ => ∃ (cells : List Int) (n m far : Nat), ds = [LI cells, .int n, .int m, .int far] ∧ cells.length ≤ 64 ∧ far ≤ 900 ∧ m ≤ n ∧ n ≤ 12 ∧ ∀ s, DrS n m cells.length s → Q (tms s)
theorem item_three {a b c j : Int} {K : D → Prop} (h0 : 0 ≤ j) (h1 : j < 3) (h : ∀ z, (z = a ∨ z = b ∨ z = c) → K (.int z)) : itemD (.lst [.int a, .int b, .int c]) j K := by
  refine item_LI (xs := [a, b, c]) h0 (by simpa using h1) (h _ ?_)
  have : j = 0 ∨ j = 1 ∨ j = 2 := by omega
  rcases this with rfl | rfl | rfl
  · exact .inl rfl
  · exact .inr (.inl rfl)
  · exact .inr (.inr rfl)
theorem wp__law_drawn_sum {Ω : Str → FSem} (hd : Ω "_law_digit_term" = sem__law_digit_term) (hc : Ω "_law_chosen" = sem__law_chosen) (hg : Ω "_law_gathered" = sem__law_gathered) : ∀ ds Q X, ds.length = P__law_drawn_sum.length → sem__law_drawn_sum ds Q X → wpS Ω ci0 ir__law_drawn_sum (holesTo ds N__law_drawn_sum.length) (poOf Q X) := by
  rintro ds Q X _ ⟨cells, n, m, far, rfl, hl, hf, hm, hn, hq⟩
  show wpS Ω _ ir__law_drawn_sum [LI cells, .int n, .int m, .int far, .hole, .hole, .hole] (poOf Q X)
  unfold ir__law_drawn_sum
  simp only [wpS, wpE, List.getD_cons_zero, List.getD_cons_succ, List.set_cons_zero, List.set_cons_succ, List.length_map, List.length_cons, List.length_nil, wipeD, cmpI, s_asI, s_asB, s_asL, s_asT, s_asS, s_lvI, s_lvB, s_lvL, s_lvT, s_lvN, s_lvS, s_lvX, s_add, s_sub, s_mul, s_fdiv, s_mod, s_pow, s_lenL, s_lenT, s_abs, s_min, s_max, s_sum, s_any, s_all, s_intI, s_intB, s_list, s_listT, s_tupL, s_tupT, s_one, s_many, s_set, s_set0, s_imI, s_imB, s_imN, s_imT, s_nx, s_rt, s_ex, s_t0, s_t1, s_l0, s_l1, s_asD, s_keyI, s_optS, s_seqL, s_seqT, s_lvD, s_isi7, s_isN1, s_isN2, s_isN3, s_isN4, s_isN5, isNil, asO, s_i1, s_i2, s_i3, s_i4, s_i5, s_i6, eqd_int, eqd_bl, true_and, and_true, decide_eq_true_eq, if_true, ite_true, ite_false, Bool.not_eq_true', decide_eq_false_iff_not, Bool.false_eq_true, Bool.not_false, Bool.not_true, not_true_eq_false, Bool.true_eq_false, hd, hc, hg]
  refine goFor_of (fun us ρ => ∃ (ts : List Tm) (x5 x6 : D), ρ = [LI cells, .int n, .int m, .int far, tms ts, x5, x6] ∧ DrT n m ts ∧ ts.length = us.length) ⟨[], _, _, rfl, ⟨(fun _ h => nomatch h), (fun _ h => nomatch h)⟩, rfl⟩ ?_ ?_
  · rintro us cell zs ρ Pn hs ⟨ts, x5, x6, rfl, hd, htl⟩ hn2
    have hul : ts.length < LIM := by
      have : us.length ≤ cells.length := by rw [hs]; simp
      unfold LIM; omega
    have fin : ∀ (l : List Int) (v : Int) (x6 : D), Drawn n m l → v.natAbs ≤ 10 ^ 9 → Pn [LI cells, .int n, .int m, .int far, .lst (ts.map tmD ++ [tmD (l, v)]), .int cell, x6] := fun l v x6 h1 h2 => by
      rw [tms_snoc]
      exact hn2 _ ⟨_, _, _, rfl, hd.snoc h1 h2, by simp [htl]⟩
    simp only [wpS, wpE, List.getD_cons_zero, List.getD_cons_succ, List.set_cons_zero, List.set_cons_succ, List.length_map, List.length_cons, List.length_nil, wipeD, cmpI, s_asI, s_asB, s_asL, s_asT, s_asS, s_lvI, s_lvB, s_lvL, s_lvT, s_lvN, s_lvS, s_lvX, s_add, s_sub, s_mul, s_fdiv, s_mod, s_pow, s_lenL, s_lenT, s_abs, s_min, s_max, s_sum, s_any, s_all, s_intI, s_intB, s_list, s_listT, s_tupL, s_tupT, s_one, s_many, s_set, s_set0, s_imI, s_imB, s_imN, s_imT, s_nx, s_rt, s_ex, s_t0, s_t1, s_l0, s_l1, s_asD, s_keyI, s_optS, s_seqL, s_seqT, s_lvD, s_isi7, s_isN1, s_isN2, s_isN3, s_isN4, s_isN5, isNil, asO, s_i1, s_i2, s_i3, s_i4, s_i5, s_i6, eqd_int, eqd_bl, true_and, and_true, decide_eq_true_eq, if_true, ite_true, ite_false, Bool.not_eq_true', decide_eq_false_iff_not, Bool.false_eq_true, Bool.not_false, Bool.not_true, not_true_eq_false, Bool.true_eq_false]
    refine ⟨by decide, ?_⟩
    split
    · refine ⟨divok_small (by decide) (by decide), cell.fdiv 2, n, m, rfl, hm, hn, fun l v h1 h2 => ?_⟩
      simp only [wpS, wpE, List.getD_cons_zero, List.getD_cons_succ, List.set_cons_zero, List.set_cons_succ, List.length_map, List.length_cons, List.length_nil, wipeD, cmpI, s_asI, s_asB, s_asL, s_asT, s_asS, s_lvI, s_lvB, s_lvL, s_lvT, s_lvN, s_lvS, s_lvX, s_add, s_sub, s_mul, s_fdiv, s_mod, s_pow, s_lenL, s_lenT, s_abs, s_min, s_max, s_sum, s_any, s_all, s_intI, s_intB, s_list, s_listT, s_tupL, s_tupT, s_one, s_many, s_set, s_set0, s_imI, s_imB, s_imN, s_imT, s_nx, s_rt, s_ex, s_t0, s_t1, s_l0, s_l1, s_asD, s_keyI, s_optS, s_seqL, s_seqT, s_lvD, s_isi7, s_isN1, s_isN2, s_isN3, s_isN4, s_isN5, isNil, asO, s_i1, s_i2, s_i3, s_i4, s_i5, s_i6, eqd_int, eqd_bl, true_and, and_true, decide_eq_true_eq, if_true, ite_true, ite_false, Bool.not_eq_true', decide_eq_false_iff_not, Bool.false_eq_true, Bool.not_false, Bool.not_true, not_true_eq_false, Bool.true_eq_false]
      exact ⟨hul, fin l v _ h1 h2⟩
    · refine ⟨divok_small (by decide) (by decide), by decide, divok_small (by decide) (by decide), ⟨by decide, by decide, by decide⟩, by decide, divok_small (by decide) (by decide), ⟨by decide, by decide, by decide⟩, by decide, divok_small (by decide) (by decide), by decide, by decide, ?_⟩
      refine item_three (fm_nn _ (by decide)) (Int.fmod_lt_of_pos _ (by decide)) fun z hz => ?_
      refine ⟨divok_small (by decide) (by decide), cell.fdiv 2, far, n, m, rfl, by omega, hm, hn, fun l h1 => ?_⟩
      have e : (10 : Int) ^ (9 : Int).toNat = 1000000000 := by decide
      have e3 : (10 : Nat) ^ 9 = 1000000000 := by decide
      have b1 := fm_nn (cell.fdiv 8) (show (0 : Int) < 7 by decide)
      have b2 := Int.fmod_lt_of_pos (cell.fdiv 8) (show (0 : Int) < 7 by decide)
      have b3 := fm_nn (cell.fdiv 8) (show (0 : Int) < 1000000000 by decide)
      have b4 := Int.fmod_lt_of_pos (cell.fdiv 8) (show (0 : Int) < 1000000000 by decide)
      have hz2 : z.natAbs ≤ 10 ^ 9 := by
        rw [e] at hz
        rw [e3]
        rcases hz with rfl | rfl | rfl <;> omega
      simp only [wpS, wpE, List.getD_cons_zero, List.getD_cons_succ, List.set_cons_zero, List.set_cons_succ, List.length_map, List.length_cons, List.length_nil, wipeD, cmpI, s_asI, s_asB, s_asL, s_asT, s_asS, s_lvI, s_lvB, s_lvL, s_lvT, s_lvN, s_lvS, s_lvX, s_add, s_sub, s_mul, s_fdiv, s_mod, s_pow, s_lenL, s_lenT, s_abs, s_min, s_max, s_sum, s_any, s_all, s_intI, s_intB, s_list, s_listT, s_tupL, s_tupT, s_one, s_many, s_set, s_set0, s_imI, s_imB, s_imN, s_imT, s_nx, s_rt, s_ex, s_t0, s_t1, s_l0, s_l1, s_asD, s_keyI, s_optS, s_seqL, s_seqT, s_lvD, s_isi7, s_isN1, s_isN2, s_isN3, s_isN4, s_isN5, isNil, asO, s_i1, s_i2, s_i3, s_i4, s_i5, s_i6, eqd_int, eqd_bl, true_and, and_true, decide_eq_true_eq, if_true, ite_true, ite_false, Bool.not_eq_true', decide_eq_false_iff_not, Bool.false_eq_true, Bool.not_false, Bool.not_true, not_true_eq_false, Bool.true_eq_false]
      exact ⟨hul, fin l z _ h1 hz2⟩
  · rintro ρ ⟨ts, x5, x6, rfl, hd, htl⟩
    simp only [wpS, wpE, List.getD_cons_zero, List.getD_cons_succ, List.set_cons_zero, List.set_cons_succ, List.length_map, List.length_cons, List.length_nil, wipeD, cmpI, s_asI, s_asB, s_asL, s_asT, s_asS, s_lvI, s_lvB, s_lvL, s_lvT, s_lvN, s_lvS, s_lvX, s_add, s_sub, s_mul, s_fdiv, s_mod, s_pow, s_lenL, s_lenT, s_abs, s_min, s_max, s_sum, s_any, s_all, s_intI, s_intB, s_list, s_listT, s_tupL, s_tupT, s_one, s_many, s_set, s_set0, s_imI, s_imB, s_imN, s_imT, s_nx, s_rt, s_ex, s_t0, s_t1, s_l0, s_l1, s_asD, s_keyI, s_optS, s_seqL, s_seqT, s_lvD, s_isi7, s_isN1, s_isN2, s_isN3, s_isN4, s_isN5, isNil, asO, s_i1, s_i2, s_i3, s_i4, s_i5, s_i6, eqd_int, eqd_bl, true_and, and_true, decide_eq_true_eq, if_true, ite_true, ite_false, Bool.not_eq_true', decide_eq_false_iff_not, Bool.false_eq_true, Bool.not_false, Bool.not_true, not_true_eq_false, Bool.true_eq_false]
    refine ⟨ts, rfl, ⟨by omega, fun t ht => by rw [(hd.pl t ht).len]; omega⟩, ?_⟩
    exact hq _ (hd.sum (by omega))
/-! ### reckoning with sums -/
def sem_added : FSem := fun ds Q _ => ∃ a b : List Tm, ds = [tms a, tms b] ∧ okT (a ++ b) ∧ Q (tms (gath (a ++ b)))
theorem wp_added {Ω : Str → FSem} (h : Ω "summed" = sem_summed) : ∀ ds Q X, ds.length = P_added.length → sem_added ds Q X → wpS Ω ci0 ir_added (holesTo ds N_added.length) (poOf Q X) := by
  rintro ds Q X _ ⟨a, b, rfl, ho, hq⟩
  show wpS Ω _ ir_added [tms a, tms b] (poOf Q X)
  unfold ir_added
  simp only [wpS, wpE, List.getD_cons_zero, List.getD_cons_succ, List.set_cons_zero, List.set_cons_succ, List.length_map, List.length_cons, List.length_nil, wipeD, cmpI, s_asI, s_asB, s_asL, s_asT, s_asS, s_lvI, s_lvB, s_lvL, s_lvT, s_lvN, s_lvS, s_lvX, s_add, s_sub, s_mul, s_fdiv, s_mod, s_pow, s_lenL, s_lenT, s_abs, s_min, s_max, s_sum, s_any, s_all, s_intI, s_intB, s_list, s_listT, s_tupL, s_tupT, s_one, s_many, s_set, s_set0, s_imI, s_imB, s_imN, s_imT, s_nx, s_rt, s_ex, s_t0, s_t1, s_l0, s_l1, s_asD, s_keyI, s_optS, s_seqL, s_seqT, s_lvD, s_isi7, s_isN1, s_isN2, s_isN3, s_isN4, s_isN5, isNil, asO, s_i1, s_i2, s_i3, s_i4, s_i5, s_i6, eqd_int, eqd_bl, true_and, and_true, decide_eq_true_eq, if_true, ite_true, ite_false, Bool.not_eq_true', decide_eq_false_iff_not, Bool.false_eq_true, Bool.not_false, Bool.not_true, not_true_eq_false, Bool.true_eq_false, h]
  have := ho.1
  rw [List.length_append] at this
  exact ⟨⟨by unfold LIM; omega, fun _ => ⟨tms_imms a, tms_imms b⟩⟩, a ++ b, by rw [tms, List.map_append], ho, hq⟩
/-- a sum taken so many times -/
def takeT (s : List Tm) (k : Int) : List Tm := if k = 0 then [] else s.map fun t => (t.1, t.2 * k)
def sem_taken : FSem := fun ds Q _ => ∃ (s : List Tm) (k : Int), ds = [tms s, .int k] ∧ s.length ≤ LIM ∧ (∀ t ∈ s, IntMulOk t.2 k) ∧ Q (tms (takeT s k))
theorem wp_taken {Ω : Str → FSem} : ∀ ds Q X, ds.length = P_taken.length → sem_taken ds Q X → wpS Ω ci0 ir_taken (holesTo ds N_taken.length) (poOf Q X) := by
  rintro ds Q X _ ⟨s, k, rfl, hl, hm, hq⟩
  show wpS Ω _ ir_taken [tms s, .int k, .hole, .hole] (poOf Q X)
  unfold ir_taken
  simp only [wpS, wpE, List.getD_cons_zero, List.getD_cons_succ, List.set_cons_zero, List.set_cons_succ, List.length_map, List.length_cons, List.length_nil, wipeD, cmpI, s_asI, s_asB, s_asL, s_asT, s_asS, s_lvI, s_lvB, s_lvL, s_lvT, s_lvN, s_lvS, s_lvX, s_add, s_sub, s_mul, s_fdiv, s_mod, s_pow, s_lenL, s_lenT, s_abs, s_min, s_max, s_sum, s_any, s_all, s_intI, s_intB, s_list, s_listT, s_tupL, s_tupT, s_one, s_many, s_set, s_set0, s_imI, s_imB, s_imN, s_imT, s_nx, s_rt, s_ex, s_t0, s_t1, s_l0, s_l1, s_asD, s_keyI, s_optS, s_seqL, s_seqT, s_lvD, s_isi7, s_isN1, s_isN2, s_isN3, s_isN4, s_isN5, isNil, asO, s_i1, s_i2, s_i3, s_i4, s_i5, s_i6, eqd_int, eqd_bl, true_and, and_true, decide_eq_true_eq, if_true, ite_true, ite_false, Bool.not_eq_true', decide_eq_false_iff_not, Bool.false_eq_true, Bool.not_false, Bool.not_true, not_true_eq_false, Bool.true_eq_false]
  refine ⟨hl, goLC_ofF (g := tmD) (xs := s) (p := fun _ => decide (k ≠ 0)) (f := fun t => tmD (t.1, t.2 * k)) (fun t ht R S r => by simp only [wpS, wpE, List.getD_cons_zero, List.getD_cons_succ, List.set_cons_zero, List.set_cons_succ, List.length_map, List.length_cons, List.length_nil, wipeD, cmpI, s_asI, s_asB, s_asL, s_asT, s_asS, s_lvI, s_lvB, s_lvL, s_lvT, s_lvN, s_lvS, s_lvX, s_add, s_sub, s_mul, s_fdiv, s_mod, s_pow, s_lenL, s_lenT, s_abs, s_min, s_max, s_sum, s_any, s_all, s_intI, s_intB, s_list, s_listT, s_tupL, s_tupT, s_one, s_many, s_set, s_set0, s_imI, s_imB, s_imN, s_imT, s_nx, s_rt, s_ex, s_t0, s_t1, s_l0, s_l1, s_asD, s_keyI, s_optS, s_seqL, s_seqT, s_lvD, s_isi7, s_isN1, s_isN2, s_isN3, s_isN4, s_isN5, isNil, asO, s_i1, s_i2, s_i3, s_i4, s_i5, s_i6, eqd_int, eqd_bl, true_and, and_true, decide_eq_true_eq, if_true, ite_true, ite_false, Bool.not_eq_true', decide_eq_false_iff_not, Bool.false_eq_true, Bool.not_false, Bool.not_true, not_true_eq_false, Bool.true_eq_false]; simpa [imms_map, hm t ht] using r) ?_⟩
  unfold takeT at hq
  by_cases hk : k = 0
  · rw [if_pos hk] at hq
    rw [show s.filter (fun _ => decide (k ≠ 0)) = [] by simp [hk]]
    exact hq
  · rw [if_neg hk] at hq
    rw [show s.filter (fun _ => decide (k ≠ 0)) = s by simp [hk]]
    unfold tms at hq
    rw [List.map_map] at hq
    exact hq
/-- each term with each -/
def mulT (a b : List Tm) : List Tm := a.flatMap fun x => b.map fun y => (x.1 ++ y.1, x.2 * y.2)
theorem mulT_len (a b : List Tm) : (mulT a b).length = a.length * b.length := by
  unfold mulT
  induction a with
  | nil => simp
  | cons x a ih => rw [List.flatMap_cons, List.length_append, ih, List.length_map, List.length_cons, Nat.succ_mul]; omega
theorem mulT_snoc (a b : List Tm) (x : Tm) : mulT (a ++ [x]) b = mulT a b ++ b.map fun y => (x.1 ++ y.1, x.2 * y.2) := by
  unfold mulT
  rw [List.flatMap_append]; simp
structure okP (a b : List Tm) : Prop where
  la : a.length ≤ 300
  lb : b.length ≤ 300
  sa : ∀ t ∈ a, t.1.length ≤ 100
  sb : ∀ t ∈ b, t.1.length ≤ 100
  mu : ∀ x ∈ a, ∀ y ∈ b, IntMulOk x.2 y.2
theorem okP.okT {a b : List Tm} (h : okP a b) : okT (mulT a b) := by
  refine ⟨?_, fun t ht => ?_⟩
  · rw [mulT_len]
    exact Nat.le_trans (Nat.mul_le_mul h.la h.lb) (by decide)
  · unfold mulT at ht
    obtain ⟨x, hx, ht⟩ := List.mem_flatMap.mp ht
    obtain ⟨y, hy, rfl⟩ := List.mem_map.mp ht
    have := h.sa x hx
    have := h.sb y hy
    simp only [List.length_append]
    omega
def sem_product : FSem := fun ds Q _ => ∃ a b : List Tm, ds = [tms a, tms b] ∧ okP a b ∧ Q (tms (gath (mulT a b)))
/-- the two loops of a product -/
def ir_mul (f : Str) : IS :=
  .cons (.set 2 (.lst .nil)) (.cons (.for (.many [3, 4]) (.var 0) [.frz, .frz, .deep, .dead, .dead, .dead, .dead] (.cons (.for (.many [5, 6]) (.var 1) [.frz, .frz, .deep, .frz, .frz, .dead, .dead] (.cons (.app 2 (.tup (.cons (.catT (.var 3) (.var 5)) (.cons (.bin .mul (.var 4) (.var 6)) .nil)))) .nil)) .nil)) (.cons (.ret (.call f (.cons (.bor 2) .nil))) .nil))
theorem wp_mul {Ω : Str → FSem} {f : Str} (h : Ω f = sem_summed) : ∀ ds Q X, sem_product ds Q X → wpS Ω ci0 (ir_mul f) (holesTo ds 7) (poOf Q X) := by
  rintro ds Q X ⟨a, b, rfl, ho, hq⟩
  show wpS Ω _ (ir_mul f) [tms a, tms b, .hole, .hole, .hole, .hole, .hole] (poOf Q X)
  unfold ir_mul
  simp only [wpS, wpE, List.getD_cons_zero, List.getD_cons_succ, List.set_cons_zero, List.set_cons_succ, List.length_map, List.length_cons, List.length_nil, wipeD, cmpI, s_asI, s_asB, s_asL, s_asT, s_asS, s_lvI, s_lvB, s_lvL, s_lvT, s_lvN, s_lvS, s_lvX, s_add, s_sub, s_mul, s_fdiv, s_mod, s_pow, s_lenL, s_lenT, s_abs, s_min, s_max, s_sum, s_any, s_all, s_intI, s_intB, s_list, s_listT, s_tupL, s_tupT, s_one, s_many, s_set, s_set0, s_imI, s_imB, s_imN, s_imT, s_nx, s_rt, s_ex, s_t0, s_t1, s_l0, s_l1, s_asD, s_keyI, s_optS, s_seqL, s_seqT, s_lvD, s_isi7, s_isN1, s_isN2, s_isN3, s_isN4, s_isN5, isNil, asO, s_i1, s_i2, s_i3, s_i4, s_i5, s_i6, eqd_int, eqd_bl, true_and, and_true, decide_eq_true_eq, if_true, ite_true, ite_false, Bool.not_eq_true', decide_eq_false_iff_not, Bool.false_eq_true, Bool.not_false, Bool.not_true, not_true_eq_false, Bool.true_eq_false, h]
  refine goFor_of (fun us ρ => ∃ (x3 x4 x5 x6 : D), ρ = [tms a, tms b, tms (mulT us b), x3, x4, x5, x6]) ⟨_, _, _, _, rfl⟩ ?_ ?_
  · rintro us ⟨p, m⟩ zs ρ Pn hs ⟨x3, x4, x5, x6, rfl⟩ hn
    have ha : ((p, m) : Tm) ∈ a := by rw [hs]; simp
    simp only [wpS, wpE, List.getD_cons_zero, List.getD_cons_succ, List.set_cons_zero, List.set_cons_succ, List.length_map, List.length_cons, List.length_nil, wipeD, cmpI, s_asI, s_asB, s_asL, s_asT, s_asS, s_lvI, s_lvB, s_lvL, s_lvT, s_lvN, s_lvS, s_lvX, s_add, s_sub, s_mul, s_fdiv, s_mod, s_pow, s_lenL, s_lenT, s_abs, s_min, s_max, s_sum, s_any, s_all, s_intI, s_intB, s_list, s_listT, s_tupL, s_tupT, s_one, s_many, s_set, s_set0, s_imI, s_imB, s_imN, s_imT, s_nx, s_rt, s_ex, s_t0, s_t1, s_l0, s_l1, s_asD, s_keyI, s_optS, s_seqL, s_seqT, s_lvD, s_isi7, s_isN1, s_isN2, s_isN3, s_isN4, s_isN5, isNil, asO, s_i1, s_i2, s_i3, s_i4, s_i5, s_i6, eqd_int, eqd_bl, true_and, and_true, decide_eq_true_eq, if_true, ite_true, ite_false, Bool.not_eq_true', decide_eq_false_iff_not, Bool.false_eq_true, Bool.not_false, Bool.not_true, not_true_eq_false, Bool.true_eq_false]
    refine goFor_of (fun vs ρ => ∃ (x5 x6 : D), ρ = [tms a, tms b, tms (mulT us b ++ vs.map fun y => (p ++ y.1, m * y.2)), tupI p, .int m, x5, x6]) ⟨x5, x6, by simp⟩ ?_ ?_
    · rintro vs ⟨r, n⟩ ws ρ Pn2 hv ⟨x5, x6, rfl⟩ hn2
      have hb : ((r, n) : Tm) ∈ b := by rw [hv]; simp
      simp only [wpS, wpE, List.getD_cons_zero, List.getD_cons_succ, List.set_cons_zero, List.set_cons_succ, List.length_map, List.length_cons, List.length_nil, wipeD, cmpI, s_asI, s_asB, s_asL, s_asT, s_asS, s_lvI, s_lvB, s_lvL, s_lvT, s_lvN, s_lvS, s_lvX, s_add, s_sub, s_mul, s_fdiv, s_mod, s_pow, s_lenL, s_lenT, s_abs, s_min, s_max, s_sum, s_any, s_all, s_intI, s_intB, s_list, s_listT, s_tupL, s_tupT, s_one, s_many, s_set, s_set0, s_imI, s_imB, s_imN, s_imT, s_nx, s_rt, s_ex, s_t0, s_t1, s_l0, s_l1, s_asD, s_keyI, s_optS, s_seqL, s_seqT, s_lvD, s_isi7, s_isN1, s_isN2, s_isN3, s_isN4, s_isN5, isNil, asO, s_i1, s_i2, s_i3, s_i4, s_i5, s_i6, eqd_int, eqd_bl, true_and, and_true, decide_eq_true_eq, if_true, ite_true, ite_false, Bool.not_eq_true', decide_eq_false_iff_not, Bool.false_eq_true, Bool.not_false, Bool.not_true, not_true_eq_false, Bool.true_eq_false]
      have h1 := ho.sa _ ha
      have h2 := ho.sb _ hb
      have l1 : (mulT us b).length + vs.length < LIM := by
        have e1 : us.length ≤ a.length := by rw [hs]; simp
        have e2 : vs.length ≤ b.length := by rw [hv]; simp
        rw [mulT_len]
        have := Nat.mul_le_mul (Nat.le_trans e1 ho.la) ho.lb
        have := ho.lb
        unfold LIM
        omega
      refine ⟨⟨by unfold LIM; dsimp only at h1 h2; omega, imms_map _, imms_map _⟩, ho.mu _ ha _ hb, by rw [List.length_append, List.length_map]; exact l1, ?_⟩
      refine hn2 _ ⟨tupI r, .int n, ?_⟩
      simp
    · rintro ρ ⟨x5, x6, rfl⟩
      rw [← mulT_snoc us b (p, m)]
      exact hn _ ⟨_, _, _, _, rfl⟩
  · rintro ρ ⟨x3, x4, x5, x6, rfl⟩
    simp only [wpS, wpE, List.getD_cons_zero, List.getD_cons_succ, List.set_cons_zero, List.set_cons_succ, List.length_map, List.length_cons, List.length_nil, wipeD, cmpI, s_asI, s_asB, s_asL, s_asT, s_asS, s_lvI, s_lvB, s_lvL, s_lvT, s_lvN, s_lvS, s_lvX, s_add, s_sub, s_mul, s_fdiv, s_mod, s_pow, s_lenL, s_lenT, s_abs, s_min, s_max, s_sum, s_any, s_all, s_intI, s_intB, s_list, s_listT, s_tupL, s_tupT, s_one, s_many, s_set, s_set0, s_imI, s_imB, s_imN, s_imT, s_nx, s_rt, s_ex, s_t0, s_t1, s_l0, s_l1, s_asD, s_keyI, s_optS, s_seqL, s_seqT, s_lvD, s_isi7, s_isN1, s_isN2, s_isN3, s_isN4, s_isN5, isNil, asO, s_i1, s_i2, s_i3, s_i4, s_i5, s_i6, eqd_int, eqd_bl, true_and, and_true, decide_eq_true_eq, if_true, ite_true, ite_false, Bool.not_eq_true', decide_eq_false_iff_not, Bool.false_eq_true, Bool.not_false, Bool.not_true, not_true_eq_false, Bool.true_eq_false]
    exact ⟨mulT a b, rfl, ho.okT, hq⟩
theorem wp_product {Ω : Str → FSem} (h : Ω "summed" = sem_summed) : ∀ ds Q X, ds.length = P_product.length → sem_product ds Q X → wpS Ω ci0 ir_product (holesTo ds N_product.length) (poOf Q X) := fun ds Q X _ => wp_mul h ds Q X
end FM.Lib

set_option Elab.async false
set_option linter.all false
set_option maxRecDepth 100000
namespace FM.Lib
open PySem L2
/-! ### slices -/
def cutG {α : Type} (xs : List α) (lo hi : Option Int) : List α := (xs.drop (HT.sIx xs.length 0 lo)).take (HT.sIx xs.length xs.length hi - HT.sIx xs.length 0 lo)
theorem cut_map {α : Type} (f : α → D) (xs : List α) (lo hi : Option Int) : cut (xs.map f) lo hi = (cutG xs lo hi).map f := by
  unfold cut cutG
  rw [List.length_map, List.map_take, List.map_drop]
theorem cutG_len {α : Type} (xs : List α) (lo hi : Option Int) : (cutG xs lo hi).length ≤ xs.length := by
  unfold cutG
  rw [List.length_take, List.length_drop]
  omega
theorem cutG_mem {α : Type} {xs : List α} {lo hi : Option Int} {x : α} (h : x ∈ cutG xs lo hi) : x ∈ xs := List.mem_of_mem_drop (List.mem_of_mem_take h)
theorem s_slcI {im : Bool} {ns : List Int} {lo hi : Option Int} {K : D → Prop} : slcD im (.lst (ns.map D.int)) lo hi K = K (LI (cutG ns lo hi)) := by
  show ((im = true → D.imms (ns.map D.int) = true) ∧ K (.lst (cut (ns.map D.int) lo hi))) = _
  rw [cut_map, imms_map]
  simp
theorem s_slcT {im : Bool} {ns : List Int} {lo hi : Option Int} {K : D → Prop} : slcD im (.tup (ns.map D.int)) lo hi K = K (tupI (cutG ns lo hi)) := by
  show (D.imms (ns.map D.int) = true ∧ K (.tup (cut (ns.map D.int) lo hi))) = _
  rw [cut_map, imms_map]
  simp
/-! ### sums taken so many times -/
theorem co_scale (s : List Tm) (k : Int) (j : List Int) : co (s.map fun t => (t.1, t.2 * k)) j = co s j * k := by
  induction s with
  | nil => rw [List.map_nil, co_nil, Int.zero_mul]
  | cons t s ih =>
    rw [List.map_cons, co_cons, co_cons, ih, Int.add_mul]
    congr 1
    dsimp only
    split
    · rw [Int.mul_assoc]
    · rw [Int.zero_mul]
theorem leT_keys {a b : Tm} (h : a.1 ≠ b.1) : leT a b = leT (a.1, 0) (b.1, 0) := by
  have key : ∀ (r s : List (Int ⊕ List Nat)), PyProof.Rows.lexLt PyProof.Rows.itemOrd (PySem.W.keyToksAll (b.1.map PyData.int) ++ r) (PySem.W.keyToksAll (a.1.map PyData.int) ++ s) = PyProof.Rows.lexLt PyProof.Rows.itemOrd (PySem.W.keyToksAll (b.1.map PyData.int)) (PySem.W.keyToksAll (a.1.map PyData.int)) := by
    have gen : ∀ (p q : List Int), p ≠ q → ∀ r s, PyProof.Rows.lexLt PyProof.Rows.itemOrd (PySem.W.keyToksAll (p.map PyData.int) ++ r) (PySem.W.keyToksAll (q.map PyData.int) ++ s) = PyProof.Rows.lexLt PyProof.Rows.itemOrd (PySem.W.keyToksAll (p.map PyData.int)) (PySem.W.keyToksAll (q.map PyData.int)) := by
      intro p
      induction p with
      | nil =>
        intro q hq r s
        cases q with
        | nil => exact absurd rfl hq
        | cons y q =>
          rw [List.map_nil, List.map_cons, toks_cons, PySem.W.keyToksAll]
          show PyProof.Rows.lexLt PyProof.Rows.itemOrd (Sum.inl 0 :: _) (Sum.inl 1 :: _) = PyProof.Rows.lexLt PyProof.Rows.itemOrd (Sum.inl 0 :: _) (Sum.inl 1 :: _)
          exact PyProof.Rows.lex_diff (O := PyProof.Rows.itemOrd) (by simp) |>.trans (PyProof.Rows.lex_diff (O := PyProof.Rows.itemOrd) (by simp)).symm
      | cons x p ih =>
        intro q hq r s
        cases q with
        | nil =>
          rw [List.map_nil, List.map_cons, toks_cons, PySem.W.keyToksAll]
          show PyProof.Rows.lexLt PyProof.Rows.itemOrd (Sum.inl 1 :: _) (Sum.inl 0 :: _) = PyProof.Rows.lexLt PyProof.Rows.itemOrd (Sum.inl 1 :: _) (Sum.inl 0 :: _)
          exact PyProof.Rows.lex_diff (O := PyProof.Rows.itemOrd) (by simp) |>.trans (PyProof.Rows.lex_diff (O := PyProof.Rows.itemOrd) (by simp)).symm
        | cons y q =>
          rw [List.map_cons, List.map_cons, toks_cons, toks_cons]
          show PyProof.Rows.lexLt PyProof.Rows.itemOrd (Sum.inl 1 :: Sum.inl x :: _) (Sum.inl 1 :: Sum.inl y :: _) = PyProof.Rows.lexLt PyProof.Rows.itemOrd (Sum.inl 1 :: Sum.inl x :: _) (Sum.inl 1 :: Sum.inl y :: _)
          rw [PyProof.Rows.lex_self (O := PyProof.Rows.itemOrd), PyProof.Rows.lex_self (O := PyProof.Rows.itemOrd)]
          by_cases e : x = y
          · subst e
            rw [PyProof.Rows.lex_self (O := PyProof.Rows.itemOrd), PyProof.Rows.lex_self (O := PyProof.Rows.itemOrd)]
            exact ih q (fun z => hq (by rw [z])) r s
          · exact (PyProof.Rows.lex_diff (O := PyProof.Rows.itemOrd) (by simpa using e)).trans (PyProof.Rows.lex_diff (O := PyProof.Rows.itemOrd) (by simpa using e)).symm
    exact gen _ _ (fun z => h z.symm)
  show (!PyProof.Rows.lexLt PyProof.Rows.itemOrd (PySem.W.keyToks (pdT b)) (PySem.W.keyToks (pdT a))) = (!PyProof.Rows.lexLt PyProof.Rows.itemOrd (PySem.W.keyToks (pdT (b.1, 0))) (PySem.W.keyToks (pdT (a.1, 0))))
  rw [pdT_toks, pdT_toks, pdT_toks, pdT_toks]
  rw [PyProof.Rows.lex_self (O := PyProof.Rows.itemOrd), PyProof.Rows.lex_self (O := PyProof.Rows.itemOrd), key, key]
/-- the same places, other numbers -/
theorem Can.map {s : List Tm} (h : Can s) (f : Tm → Int) (hf : ∀ t ∈ s, f t ≠ 0) : Can (s.map fun t => (t.1, f t)) where
  asc t ht := by
    obtain ⟨u, hu, rfl⟩ := List.mem_map.mp ht
    exact h.asc u hu
  nz t ht := by
    obtain ⟨u, hu, rfl⟩ := List.mem_map.mp ht
    exact hf u hu
  nd := by
    rw [List.map_map]
    exact h.nd
  ord := by
    have h1 := h.ord
    have h2 : s.Pairwise fun a b => a.1 ≠ b.1 := List.pairwise_map.mp h.nd
    exact List.pairwise_map.mpr ((h1.and h2).imp fun ⟨a, b⟩ => by
      rw [leT_keys (by exact b)]
      rw [leT_keys b] at a
      exact a)
theorem Can.nil : Can [] := ⟨(fun _ h => nomatch h), (fun _ h => nomatch h), List.nodup_nil, List.Pairwise.nil⟩
theorem takeT_gath {s : List Tm} (h : Can s) (k : Int) : takeT s k = gath (s.map fun t => (t.1, t.2 * k)) := by
  unfold takeT
  split
  · rename_i hk
    subst hk
    have : gath (s.map fun t => (t.1, t.2 * 0)) = gath [] := gath_congr fun j => by rw [co_scale, Int.mul_zero, co_nil]
    rw [this, Can.gath Can.nil]
  · rename_i hk
    exact ((Can.map h (fun t => t.2 * k) fun t ht => Int.mul_ne_zero (h.nz t ht) hk).gath).symm
theorem takeT_can {s : List Tm} (h : Can s) (k : Int) : Can (takeT s k) := by
  rw [takeT_gath h]; exact gath_can _
theorem co_takeT {s : List Tm} (k : Int) (j : List Int) : co (takeT s k) j = co s j * k := by
  unfold takeT
  split
  · rename_i h
    rw [h, Int.mul_zero, co_nil]
  · exact co_scale s k j
theorem mulT_unit (s : List Tm) : mulT [([], 1)] s = s := by
  unfold mulT
  rw [List.flatMap_cons, List.flatMap_nil, List.append_nil]
  simp
theorem mulT_unit' (s : List Tm) : mulT s [([], 1)] = s := by
  unfold mulT
  induction s with
  | nil => rfl
  | cons t s ih => rw [List.flatMap_cons, ih]; simp
theorem Can.one {p : List Int} {n : Int} (hp : Asc p) (hn : n ≠ 0) : Can [(p, n)] := ⟨fun t h => by rw [List.mem_singleton.mp h]; exact hp, fun t h => by rw [List.mem_singleton.mp h]; exact hn, by simp, by simp⟩
/-- a sum of a moderate size -/
structure GS (s : List Tm) : Prop where
  can : Can s
  len : s.length ≤ 64
  size : ∀ t ∈ s, t.1.length ≤ 12
  bd : ∀ t ∈ s, t.2.natAbs < 2 ^ 60
theorem DrS.gs {n m c : Nat} {s : List Tm} (h : DrS n m c s) (hc : c ≤ 64) (hm : m ≤ 12) : GS s where
  can := h.can
  len := Nat.le_trans h.len hc
  size t ht := by rw [h.size t ht]; exact hm
  bd t ht := by
    have h1 := h.bd t ht
    have h2 : c * 10 ^ 9 ≤ 64 * 10 ^ 9 := Nat.mul_le_mul_right _ hc
    have h3 : (64 : Nat) * 10 ^ 9 < 2 ^ 60 := by decide
    omega
theorem GS.okT2 {a b : List Tm} (ha : GS a) (hb : GS b) : okT (a ++ b) := by
  refine ⟨by have := ha.len; have := hb.len; rw [List.length_append]; omega, fun t ht => ?_⟩
  rcases List.mem_append.mp ht with h | h
  · have := ha.size t h; omega
  · have := hb.size t h; omega
theorem GS.okP {a b : List Tm} (ha : GS a) (hb : GS b) : okP a b where
  la := by have := ha.len; omega
  lb := by have := hb.len; omega
  sa t h := by have := ha.size t h; omega
  sb t h := by have := hb.size t h; omega
  mu x hx y hy := mulok_l (by have := ha.bd x hx; omega)
theorem GS.nil : GS [] := ⟨Can.nil, Nat.zero_le _, (fun _ h => nomatch h), (fun _ h => nomatch h)⟩
theorem GS.unit : GS [([], 1)] := ⟨Can.one List.Pairwise.nil (by decide), by decide, fun t h => by rw [List.mem_singleton.mp h]; decide, fun t h => by rw [List.mem_singleton.mp h]; decide⟩
theorem GS.pl {s : List Tm} (h : GS s) : ∀ t ∈ s, t.1.length ≤ LIM := fun t ht => Nat.le_trans (h.size t ht) (by decide)
theorem eqd_tmss {a b : List (List Tm)} {K : Bool → Prop} : eqD (.lst (a.map tms)) (.lst (b.map tms)) K ↔ K (decide (a = b)) := by
  have e : ∀ x : List (List Tm), D.lst (x.map tms) = Dt.d (x.map fun ts => ts.map tmT) := fun x => by
    show D.lst (x.map tms) = .lst ((x.map fun ts => ts.map tmT).map Dt.d)
    rw [List.map_map]
    congr 1
    exact List.map_congr_left fun ts _ => tms_dt ts
  rw [e, e, eqD_dt (α := List (List (Tp Int × Int))) (by decide)]
  rw [show decide ((a.map fun ts => ts.map tmT) = b.map fun ts => ts.map tmT) = decide (a = b) from decide_eq_decide.mpr (map_inj' fun x y => map_inj' fun a b => tmT_inj)]
end FM.Lib

set_option Elab.async false
set_option linter.all false
set_option maxRecDepth 100000
namespace FM.Lib
open PySem L2
/-! ### hooked -/
def N_hooked : List Str := ["row", "some", "terms", "places", "number", "j", "way"]
def P_hooked : List Str := ["row", "some"]
def ir_hooked : IS :=
  .cons (.set 2 (.lst .nil)) (.cons (.for (.many [3, 4]) (.var 1) [.frz, .frz, .deep, .dead, .dead, .dead, .dead] (.cons (.for (.many [5, 6]) (.enmT (.var 3)) [.frz, .frz, .deep, .frz, .frz, .dead, .dead] (.cons (.ite (.cmp .ge (.var 6) (.blt .len (.cons (.var 0) .nil))) (.cons (.raise "BadRow") .nil) .nil) (.cons (.app 2 (.tup (.cons (.catT (.slc true (.var 3) .nil (.var 5)) (.slc true (.var 3) (.bin .add (.var 5) (.int 1)) .nil)) (.cons (.bin .mul (.bin .mul (.var 4) (.ix (.var 0) (.var 6))) (.bin .sub (.int 1) (.bin .mul (.int 2) (.bin .mod (.var 5) (.int 2))))) .nil)))) .nil))) .nil)) (.cons (.ret (.call "summed" (.cons (.bor 2) .nil))) .nil))
/-! ### turned_over -/
def N_turned_over : List Str := ["many", "some", "found", "places", "number", "lacking", "way"]
def P_turned_over : List Str := ["many", "some"]
def ir_turned_over : IS :=
  .cons (.ite (.or (.cmp .lt (.var 0) (.int 1)) (.cmp .gt (.var 0) (.gint "WAYS" 5))) (.cons (.raise "BadCount") .nil) .nil) (.cons (.set 2 (.lst .nil)) (.cons (.for (.many [3, 4]) (.var 1) [.frz, .frz, .deep, .dead, .dead, .dead, .dead] (.cons (.set 5 (.blt (.toTup true) (.cons (.lc [("way", 6)] (.imm (.var 6)) (.one 6) (.rng1 (.var 0)) (.isin true (.var 6) (.var 3))) .nil))) (.cons (.app 2 (.tup (.cons (.imm (.bor 5)) (.cons (.bin .mul (.var 4) (.ix (.call "ordered" (.cons (.catT (.var 3) (.bor 5)) .nil)) (.int 0))) .nil)))) .nil))) (.cons (.ret (.srt (.bor 2))) .nil)))
/-! ### weighed_sums -/
def N_weighed_sums : List Str := ["one", "other", "counts", "places", "number"]
def P_weighed_sums : List Str := ["one", "other"]
def ir_weighed_sums : IS :=
  .cons (.set 2 (.dictOf (.var 1))) (.cons (.ret (.blt .sum (.cons (.lc [("places", 3), ("number", 4)] (.bin .mul (.var 4) (.get (.var 2) (.var 3) (.int 0))) (.many [3, 4]) (.var 0) (.bl true)) .nil))) .nil)
/-! ### _law_orders -/
def N__law_orders : List Str := ["size", "found", "number", "longer", "some", "sign", "k"]
def P__law_orders : List Str := ["size"]
def ir__law_orders : IS :=
  .cons (.set 1 (.lst (.cons (.tup (.cons (.tup .nil) (.cons (.int 1) .nil))) .nil))) (.cons (.for (.one 2) (.rng1 (.var 0)) [.frz, .deep, .dead, .dead, .dead, .dead, .dead] (.cons (.set 3 (.lst .nil)) (.cons (.for (.many [4, 5]) (.var 1) [.frz, .frz, .frz, .deep, .dead, .dead, .dead] (.cons (.for (.one 6) (.rng1 (.bin .add (.blt .len (.cons (.var 4) .nil)) (.int 1))) [.frz, .frz, .frz, .deep, .frz, .frz, .dead] (.cons (.app 3 (.tup (.cons (.catT (.catT (.slc true (.var 4) .nil (.var 6)) (.tup (.cons (.imm (.var 2)) .nil))) (.slc true (.var 4) (.var 6) .nil)) (.cons (.bin .mul (.var 5) (.bin .sub (.int 1) (.bin .mul (.int 2) (.bin .mod (.bin .sub (.blt .len (.cons (.var 4) .nil)) (.var 6)) (.int 2))))) .nil)))) .nil)) .nil)) (.cons (.set 1 (.mv 3)) .nil)))) (.cons (.ret (.mv 1)) .nil))
/-! ### _law_minor -/
def N__law_minor : List Str := ["rows", "places", "total", "order", "sign", "number", "k"]
def P__law_minor : List Str := ["rows", "places"]
def ir__law_minor : IS :=
  .cons (.set 2 (.int 0)) (.cons (.for (.many [3, 4]) (.fz (.call "_law_orders" (.cons (.blt .len (.cons (.var 1) .nil)) .nil))) [.frz, .frz, .deep, .dead, .dead, .dead, .dead] (.cons (.set 5 (.imm (.var 4))) (.cons (.for (.one 6) (.rng1 (.blt .len (.cons (.var 1) .nil))) [.frz, .frz, .deep, .frz, .frz, .deep, .dead] (.cons (.set 5 (.bin .mul (.bor 5) (.ix (.ix (.var 0) (.var 6)) (.ix (.var 1) (.ix (.var 3) (.var 6)))))) .nil)) (.cons (.set 2 (.bin .add (.bor 2) (.bor 5))) .nil)))) (.cons (.ret (.mv 2)) .nil))
/-! ### box_of -/
def N_box_of : List Str := ["many", "rows", "found", "row", "way", "number"]
def P_box_of : List Str := ["many", "rows"]
def ir_box_of : IS :=
  .cons (.drop (.call "look_at_rows" (.cons (.var 0) (.cons (.var 1) .nil)))) (.cons (.set 2 (.lst (.cons (.tup (.cons (.tup .nil) (.cons (.int 1) .nil))) .nil))) (.cons (.for (.one 3) (.var 1) [.frz, .frz, .deep, .dead, .dead, .dead] (.cons (.set 2 (.call "product" (.cons (.bor 2) (.cons (.lc [("way", 4), ("number", 5)] (.tup (.cons (.tup (.cons (.imm (.var 4)) .nil)) (.cons (.imm (.var 5)) .nil))) (.many [4, 5]) (.enm (.var 3)) (.bl true)) .nil)))) .nil)) (.cons (.ret (.mv 2)) .nil)))
/-! ### weighed -/
def N_weighed : List Str := ["one", "other", "left", "right"]
def P_weighed : List Str := ["one", "other"]
def ir_weighed : IS :=
  .cons (.drop (.call "look_alike" (.cons (.var 0) (.cons (.var 1) .nil)))) (.cons (.ret (.blt .sum (.cons (.lc [("left", 2), ("right", 3)] (.bin .mul (.var 2) (.var 3)) (.many [2, 3]) (.zip (.var 0) (.var 1)) (.bl true)) .nil))) .nil)
/-! ### look_alike -/
def N_look_alike : List Str := ["one", "other"]
def P_look_alike : List Str := ["one", "other"]
def ir_look_alike : IS :=
  .cons (.ite (.eq true (.blt .len (.cons (.var 0) .nil)) (.blt .len (.cons (.var 1) .nil))) (.cons (.raise "NotAlike") .nil) .nil) .nil
end FM.Lib

set_option Elab.async false
set_option linter.all false
set_option maxRecDepth 100000
namespace FM.Lib
open PySem L2
theorem cutG_to {α : Type} {xs : List α} {j : Nat} (h : j ≤ xs.length) : cutG xs none (some (j : Int)) = xs.take j := by
  unfold cutG
  have e1 : HT.sIx xs.length 0 none = 0 := rfl
  have e2 : HT.sIx xs.length xs.length (some (j : Int)) = j := by rw [HT.sIx_nat]; omega
  rw [e1, e2, List.drop_zero]; rfl
theorem cutG_from {α : Type} {xs : List α} {j : Nat} (h : j ≤ xs.length) : cutG xs (some (j : Int)) none = xs.drop j := by
  unfold cutG
  have e1 : HT.sIx xs.length xs.length none = xs.length := rfl
  have e2 : HT.sIx xs.length 0 (some (j : Int)) = j := by rw [HT.sIx_nat]; omega
  rw [e1, e2]
  exact List.take_of_length_le (by rw [List.length_drop]; exact Nat.le_refl _)
theorem cutG_from1 {α : Type} {xs : List α} {j : Nat} (h : j + 1 ≤ xs.length) : cutG xs (some ((j : Int) + 1)) none = xs.drop (j + 1) := by
  have := cutG_from (xs := xs) (j := j + 1) h
  simpa using this
def alt (j : Nat) : Int := 1 - 2 * (((j : Int)).fmod 2)
theorem alt_cases (j : Nat) : alt j = 1 ∨ alt j = -1 := by
  unfold alt
  have a := fm_nn (j : Int) (show (0 : Int) < 2 by decide)
  have b := Int.fmod_lt_of_pos (j : Int) (show (0 : Int) < 2 by decide)
  omega
theorem alt_bd (j : Nat) : (alt j).natAbs < 2 ^ 64 := by
  rcases alt_cases j with e | e <;> rw [e] <;> decide
/-- a term with each place left out -/
def hook1 (row : List Int) (t : Tm) : List Tm := (List.range t.1.length).map fun j => (t.1.take j ++ t.1.drop (j + 1), t.2 * row.getD (t.1.getD j 0).toNat 0 * alt j)
def hookT (row : List Int) (s : List Tm) : List Tm := s.flatMap (hook1 row)
def fits (row : List Int) (s : List Tm) : Prop := ∀ t ∈ s, ∀ w ∈ t.1, w < row.length
structure okH (row : List Int) (s : List Tm) : Prop where
  len : s.length ≤ 300
  size : ∀ t ∈ s, t.1.length ≤ 100
  nn : ∀ t ∈ s, ∀ w ∈ t.1, 0 ≤ w
  mu : ∀ t ∈ s, ∀ x ∈ row, IntMulOk t.2 x
theorem hookT_snoc (row : List Int) (s : List Tm) (t : Tm) : hookT row (s ++ [t]) = hookT row s ++ hook1 row t := by
  unfold hookT
  rw [List.flatMap_append]; simp
theorem hookT_len {row : List Int} {s : List Tm} (h : ∀ t ∈ s, t.1.length ≤ 100) : (hookT row s).length ≤ s.length * 100 := by
  unfold hookT
  induction s with
  | nil => simp
  | cons t s ih =>
    have h1 := h t List.mem_cons_self
    have h2 := ih fun u hu => h u (List.mem_cons_of_mem _ hu)
    rw [List.flatMap_cons, List.length_append, List.length_cons, Nat.succ_mul]
    have : (hook1 row t).length = t.1.length := by unfold hook1; simp
    omega
theorem okH.okT {row : List Int} {s : List Tm} (h : okH row s) : okT (hookT row s) := by
  refine ⟨?_, fun t ht => ?_⟩
  · have := hookT_len (row := row) h.size
    have := h.len
    omega
  · obtain ⟨u, hu, ht⟩ := List.mem_flatMap.mp ht
    unfold hook1 at ht
    obtain ⟨j, hj, rfl⟩ := List.mem_map.mp ht
    have := h.size u hu
    simp only [List.length_append, List.length_take, List.length_drop]
    omega
def sem_hooked : FSem := fun ds Q X => ∃ (row : List Int) (s : List Tm), ds = [LI row, tms s] ∧ okH row s ∧ (fits row s → Q (tms (gath (hookT row s)))) ∧ (¬ fits row s → X (.exc "BadRow" [] []))
theorem enm_I (ps : List Int) : (ps.map D.int).mapIdx (fun k d => D.tup [.int (k : Nat), d]) = (List.range ps.length).map fun j => .tup [.int (j : Nat), .int (ps.getD j 0)] := by
  refine List.ext_getElem (by simp) fun i h1 h2 => ?_
  have hi : i < ps.length := by simpa using h2
  simp [List.getD_eq_getElem?_getD, hi]
theorem wp_hooked {Ω : Str → FSem} (h : Ω "summed" = sem_summed) : ∀ ds Q X, ds.length = P_hooked.length → sem_hooked ds Q X → wpS Ω ci0 ir_hooked (holesTo ds N_hooked.length) (poOf Q X) := by
  rintro ds Q X _ ⟨row, s, rfl, ok, hq, hx⟩
  show wpS Ω _ ir_hooked [LI row, tms s, .hole, .hole, .hole, .hole, .hole] (poOf Q X)
  unfold ir_hooked
  simp only [wpS, wpE, List.getD_cons_zero, List.getD_cons_succ, List.set_cons_zero, List.set_cons_succ, List.length_map, List.length_cons, List.length_nil, wipeD, cmpI, s_asI, s_asB, s_asL, s_asT, s_asS, s_lvI, s_lvB, s_lvL, s_lvT, s_lvN, s_lvS, s_lvX, s_add, s_sub, s_mul, s_fdiv, s_mod, s_pow, s_lenL, s_lenT, s_abs, s_min, s_max, s_sum, s_any, s_all, s_intI, s_intB, s_list, s_listT, s_tupL, s_tupT, s_one, s_many, s_set, s_set0, s_imI, s_imB, s_imN, s_imT, s_nx, s_rt, s_ex, s_t0, s_t1, s_l0, s_l1, s_asD, s_keyI, s_optS, s_seqL, s_seqT, s_lvD, s_isi7, s_isN1, s_isN2, s_isN3, s_isN4, s_isN5, isNil, asO, s_i1, s_i2, s_i3, s_i4, s_i5, s_i6, eqd_int, eqd_bl, true_and, and_true, decide_eq_true_eq, if_true, ite_true, ite_false, Bool.not_eq_true', decide_eq_false_iff_not, Bool.false_eq_true, Bool.not_false, Bool.not_true, not_true_eq_false, Bool.true_eq_false, h]
  refine goFor_of (fun us ρ => ∃ (x3 x4 x5 x6 : D), ρ = [LI row, tms s, tms (hookT row us), x3, x4, x5, x6] ∧ fits row us) ⟨_, _, _, _, rfl, (fun _ h => nomatch h)⟩ ?_ ?_
  · rintro us ⟨ps, n⟩ zs ρ Pn hs ⟨x3, x4, x5, x6, rfl, hf⟩ hn
    have ha : ((ps, n) : Tm) ∈ s := by rw [hs]; simp
    have hps := ok.size _ ha
    dsimp only at hps
    simp only [wpS, wpE, List.getD_cons_zero, List.getD_cons_succ, List.set_cons_zero, List.set_cons_succ, List.length_map, List.length_cons, List.length_nil, wipeD, cmpI, s_asI, s_asB, s_asL, s_asT, s_asS, s_lvI, s_lvB, s_lvL, s_lvT, s_lvN, s_lvS, s_lvX, s_add, s_sub, s_mul, s_fdiv, s_mod, s_pow, s_lenL, s_lenT, s_abs, s_min, s_max, s_sum, s_any, s_all, s_intI, s_intB, s_list, s_listT, s_tupL, s_tupT, s_one, s_many, s_set, s_set0, s_imI, s_imB, s_imN, s_imT, s_nx, s_rt, s_ex, s_t0, s_t1, s_l0, s_l1, s_asD, s_keyI, s_optS, s_seqL, s_seqT, s_lvD, s_isi7, s_isN1, s_isN2, s_isN3, s_isN4, s_isN5, isNil, asO, s_i1, s_i2, s_i3, s_i4, s_i5, s_i6, eqd_int, eqd_bl, true_and, and_true, decide_eq_true_eq, if_true, ite_true, ite_false, Bool.not_eq_true', decide_eq_false_iff_not, Bool.false_eq_true, Bool.not_false, Bool.not_true, not_true_eq_false, Bool.true_eq_false]
    rw [enm_I]
    refine goFor_rng (fun k ρ => ∃ (x5 x6 : D), ρ = [LI row, tms s, tms (hookT row us ++ (hook1 row (ps, n)).take k), tupI ps, .int n, x5, x6] ∧ ∀ i, i < k → ps.getD i 0 < row.length) ⟨x5, x6, by simp, fun i h => by omega⟩ ?_ ?_
    · rintro k ρ Pn2 hk ⟨x5, x6, rfl, hk2⟩ hn2
      have hw : ps.getD k 0 ∈ ps := by rw [List.getD_eq_getElem?_getD, List.getElem?_eq_getElem hk]; exact List.getElem_mem hk
      have w0 := ok.nn _ ha _ hw
      simp only [wpS, wpE, List.getD_cons_zero, List.getD_cons_succ, List.set_cons_zero, List.set_cons_succ, List.length_map, List.length_cons, List.length_nil, wipeD, cmpI, s_asI, s_asB, s_asL, s_asT, s_asS, s_lvI, s_lvB, s_lvL, s_lvT, s_lvN, s_lvS, s_lvX, s_add, s_sub, s_mul, s_fdiv, s_mod, s_pow, s_lenL, s_lenT, s_abs, s_min, s_max, s_sum, s_any, s_all, s_intI, s_intB, s_list, s_listT, s_tupL, s_tupT, s_one, s_many, s_set, s_set0, s_imI, s_imB, s_imN, s_imT, s_nx, s_rt, s_ex, s_t0, s_t1, s_l0, s_l1, s_asD, s_keyI, s_optS, s_seqL, s_seqT, s_lvD, s_isi7, s_isN1, s_isN2, s_isN3, s_isN4, s_isN5, isNil, asO, s_i1, s_i2, s_i3, s_i4, s_i5, s_i6, eqd_int, eqd_bl, true_and, and_true, decide_eq_true_eq, if_true, ite_true, ite_false, Bool.not_eq_true', decide_eq_false_iff_not, Bool.false_eq_true, Bool.not_false, Bool.not_true, not_true_eq_false, Bool.true_eq_false]
      split
      · rename_i hge
        refine hx fun hf => ?_
        have := hf _ ha _ hw
        omega
      · rename_i hlt
        have hr : row.getD (ps.getD k 0).toNat 0 ∈ row := by
          have : (ps.getD k 0).toNat < row.length := by omega
          rw [List.getD_eq_getElem?_getD, List.getElem?_eq_getElem this]; exact List.getElem_mem this
        rw [s_slcT, s_slcT, cutG_to (by omega), cutG_from1 (by omega)]
        simp only [wpS, wpE, List.getD_cons_zero, List.getD_cons_succ, List.set_cons_zero, List.set_cons_succ, List.length_map, List.length_cons, List.length_nil, wipeD, cmpI, s_asI, s_asB, s_asL, s_asT, s_asS, s_lvI, s_lvB, s_lvL, s_lvT, s_lvN, s_lvS, s_lvX, s_add, s_sub, s_mul, s_fdiv, s_mod, s_pow, s_lenL, s_lenT, s_abs, s_min, s_max, s_sum, s_any, s_all, s_intI, s_intB, s_list, s_listT, s_tupL, s_tupT, s_one, s_many, s_set, s_set0, s_imI, s_imB, s_imN, s_imT, s_nx, s_rt, s_ex, s_t0, s_t1, s_l0, s_l1, s_asD, s_keyI, s_optS, s_seqL, s_seqT, s_lvD, s_isi7, s_isN1, s_isN2, s_isN3, s_isN4, s_isN5, isNil, asO, s_i1, s_i2, s_i3, s_i4, s_i5, s_i6, eqd_int, eqd_bl, true_and, and_true, decide_eq_true_eq, if_true, ite_true, ite_false, Bool.not_eq_true', decide_eq_false_iff_not, Bool.false_eq_true, Bool.not_false, Bool.not_true, not_true_eq_false, Bool.true_eq_false]
        refine ⟨⟨by simp; unfold LIM; omega, imms_map _, imms_map _⟩, ?_⟩
        refine item_LI w0 (by omega) ?_
        simp only [wpS, wpE, List.getD_cons_zero, List.getD_cons_succ, List.set_cons_zero, List.set_cons_succ, List.length_map, List.length_cons, List.length_nil, wipeD, cmpI, s_asI, s_asB, s_asL, s_asT, s_asS, s_lvI, s_lvB, s_lvL, s_lvT, s_lvN, s_lvS, s_lvX, s_add, s_sub, s_mul, s_fdiv, s_mod, s_pow, s_lenL, s_lenT, s_abs, s_min, s_max, s_sum, s_any, s_all, s_intI, s_intB, s_list, s_listT, s_tupL, s_tupT, s_one, s_many, s_set, s_set0, s_imI, s_imB, s_imN, s_imT, s_nx, s_rt, s_ex, s_t0, s_t1, s_l0, s_l1, s_asD, s_keyI, s_optS, s_seqL, s_seqT, s_lvD, s_isi7, s_isN1, s_isN2, s_isN3, s_isN4, s_isN5, isNil, asO, s_i1, s_i2, s_i3, s_i4, s_i5, s_i6, eqd_int, eqd_bl, true_and, and_true, decide_eq_true_eq, if_true, ite_true, ite_false, Bool.not_eq_true', decide_eq_false_iff_not, Bool.false_eq_true, Bool.not_false, Bool.not_true, not_true_eq_false, Bool.true_eq_false]
        refine ⟨ok.mu _ ha _ hr, by decide, mulok_l (by decide), mulok_r (alt_bd k), ?_, ?_⟩
        · have e1 : us.length ≤ s.length := by rw [hs]; simp
          have e2 := hookT_len (row := row) (s := us) fun t ht => ok.size t (by rw [hs]; exact List.mem_append_left _ ht)
          have := ok.len
          have e3 : ((hook1 row (ps, n)).take k).length ≤ k := by rw [List.length_take]; omega
          rw [List.length_append]
          unfold LIM
          omega
        · have e : (hook1 row (ps, n)).take (k + 1) = (hook1 row (ps, n)).take k ++ [(ps.take k ++ ps.drop (k + 1), n * row.getD (ps.getD k 0).toNat 0 * alt k)] := by
            have hl : k < (hook1 row (ps, n)).length := by unfold hook1; simpa using hk
            rw [List.take_add_one, List.getElem?_eq_getElem hl]
            unfold hook1
            simp
          refine hn2 _ ⟨.int (k : Nat), .int (ps.getD k 0), ?_, fun i hi => ?_⟩
          · rw [e]
            simp [alt]
          · by_cases c : i = k
            · subst c; omega
            · exact hk2 i (by omega)
    · rintro ρ ⟨x5, x6, rfl, hk2⟩
      have hl : (hook1 row (ps, n)).length = ps.length := by unfold hook1; simp
      rw [List.take_of_length_le (by omega), ← hookT_snoc]
      refine hn _ ⟨_, _, _, _, rfl, fun t ht w hw => ?_⟩
      rcases List.mem_append.mp ht with z | z
      · exact hf t z w hw
      · rw [List.mem_singleton.mp z] at hw
        obtain ⟨i, hi, e⟩ := List.getElem_of_mem hw
        have hi : i < ps.length := hi
        have := hk2 i hi
        rw [List.getD_eq_getElem?_getD, List.getElem?_eq_getElem hi] at this
        rw [← e]
        exact this
  · rintro ρ ⟨x3, x4, x5, x6, rfl, hf⟩
    simp only [wpS, wpE, List.getD_cons_zero, List.getD_cons_succ, List.set_cons_zero, List.set_cons_succ, List.length_map, List.length_cons, List.length_nil, wipeD, cmpI, s_asI, s_asB, s_asL, s_asT, s_asS, s_lvI, s_lvB, s_lvL, s_lvT, s_lvN, s_lvS, s_lvX, s_add, s_sub, s_mul, s_fdiv, s_mod, s_pow, s_lenL, s_lenT, s_abs, s_min, s_max, s_sum, s_any, s_all, s_intI, s_intB, s_list, s_listT, s_tupL, s_tupT, s_one, s_many, s_set, s_set0, s_imI, s_imB, s_imN, s_imT, s_nx, s_rt, s_ex, s_t0, s_t1, s_l0, s_l1, s_asD, s_keyI, s_optS, s_seqL, s_seqT, s_lvD, s_isi7, s_isN1, s_isN2, s_isN3, s_isN4, s_isN5, isNil, asO, s_i1, s_i2, s_i3, s_i4, s_i5, s_i6, eqd_int, eqd_bl, true_and, and_true, decide_eq_true_eq, if_true, ite_true, ite_false, Bool.not_eq_true', decide_eq_false_iff_not, Bool.false_eq_true, Bool.not_false, Bool.not_true, not_true_eq_false, Bool.true_eq_false]
    exact ⟨_, rfl, ok.okT, hq hf⟩
theorem use_same {s : List Tm} {Q X : D → Prop} (h : ∀ t ∈ s, t.1.length ≤ LIM) (q : Q (.bl true)) : sem__law_same_sum [tms s, tms s] Q X := ⟨s, rfl, h, q⟩
theorem gath_pl {ts : List Tm} (h : okT ts) : ∀ t ∈ gath ts, t.1.length ≤ LIM := fun t ht => by
  obtain ⟨u, hu, e⟩ := gath_places ht
  rw [e, srt_len]
  exact Nat.le_trans (h.2 u hu) (by decide)
end FM.Lib

set_option Elab.async false
set_option linter.all false
set_option maxRecDepth 100000
namespace FM.Lib
open PySem L2
/-- a list of two unlike things -/
structure HP (α β : Type) where
  a : α
  b : β
  deriving DecidableEq
section
variable {α β : Type} [DecidableEq α] [Dt α] [DecidableEq β] [Dt β]
instance : Dt (HP α β) where
  d x := .lst [Dt.d x.a, Dt.d x.b]
  pd x := .list [Dt.pd x.a, Dt.pd x.b]
  py x := by
    show (D.pys [Dt.d x.a, Dt.d x.b]).map PyData.list = _
    unfold D.pys D.pys D.pys
    rw [Dt.py x.a, Dt.py x.b]; rfl
  ok x := by
    show ((Dt.pd x.a).canLay0 && ((Dt.pd x.b).canLay0 && true)) = true
    rw [Dt.ok x.a, Dt.ok x.b]; rfl
  eqv x y := by
    rw [PyData.eqv, PyData.eqvAll, PyData.eqvAll, PyData.eqvAll, Dt.eqv x.a y.a, Dt.eqv x.b y.b, Bool.and_true, ← Bool.decide_and]
    exact decide_eq_decide.mpr (by cases x; cases y; simp)
  dep := max (Dt.dep α) (Dt.dep β) + 1
  dep_le x := by
    show max (PyData.depth (Dt.pd x.a)) (max (PyData.depth (Dt.pd x.b)) 0) + 1 ≤ _
    have h1 := Dt.dep_le x.a
    have h2 := Dt.dep_le x.b
    omega
end
theorem eqd_LT {r r' : List Int} {s s' : List Tm} {K : Bool → Prop} : eqD (.lst [.lst (r.map D.int), tms s]) (.lst [.lst (r'.map D.int), tms s']) K ↔ K (decide (r = r' ∧ s = s')) := by
  rw [tms_dt, tms_dt]
  have := eqD_dt (α := HP (List Int) (List (Tp Int × Int))) (a := ⟨r, s.map tmT⟩) (b := ⟨r', s'.map tmT⟩) (by decide) (K := K)
  rw [show decide ((⟨r, s.map tmT⟩ : HP (List Int) (List (Tp Int × Int))) = ⟨r', s'.map tmT⟩) = decide (r = r' ∧ s = s') from decide_eq_decide.mpr (by rw [HP.mk.injEq, map_inj' fun a b => tmT_inj])] at this
  exact this
theorem item_2a {x y : D} {K : D → Prop} (hx : x.live) (h : K x) : itemD (.lst [x, y]) 0 K := ⟨hx, h⟩
theorem item_2b {x y : D} {K : D → Prop} (hy : y.live) (h : K y) : itemD (.lst [x, y]) 1 K := ⟨hy, h⟩
theorem item_last {xs : List Int} {K : D → Prop} (h1 : xs ≠ []) (h : K (.int (xs.getD (xs.length - 1) 0))) : itemD (.tup (xs.map D.int)) (-1) K := by
  have hl : 0 < xs.length := List.length_pos_iff.mpr h1
  have e : atI (xs.map D.int) (-1) = some (.int (xs.getD (xs.length - 1) 0)) := by
    unfold atI
    have : ixN (xs.map D.int).length (-1) = some (xs.length - 1) := by
      unfold ixN
      rw [if_neg (by decide), List.length_map, if_pos (by omega)]
      congr 1
      omega
    rw [this]
    exact getD_int xs (xs.length - 1) (by omega)
  show (match atI (xs.map D.int) (-1) with | some d => d.live ∧ K d | none => False)
  rw [e]
  exact ⟨trivial, h⟩
/-- the last of rising places is the greatest -/
theorem asc_last {l : List Int} (h : Asc l) : ∀ w ∈ l, w ≤ l.getD (l.length - 1) 0 := fun w hw => by
  obtain ⟨i, hi, e⟩ := List.getElem_of_mem hw
  have hg : l.getD (l.length - 1) 0 = l[l.length - 1]'(by omega) := getD_get (by omega)
  rw [hg, ← e]
  by_cases c : i = l.length - 1
  · subst c; exact Int.le_refl _
  · exact Int.le_of_lt (List.pairwise_iff_getElem.mp h i (l.length - 1) hi (by omega) (by omega))
theorem s_slcTm {im : Bool} {ts : List Tm} {lo hi : Option Int} {K : D → Prop} : slcD im (tms ts) lo hi K = K (tms (cutG ts lo hi)) := by
  show ((im = true → D.imms (ts.map tmD) = true) ∧ K (.lst (cut (ts.map tmD) lo hi))) = _
  rw [cut_map]
  exact propext ⟨fun q => q.2, fun q => ⟨fun _ => tms_imms _, q⟩⟩
end FM.Lib

set_option Elab.async false
set_option linter.all false
set_option maxRecDepth 100000
namespace FM.Lib
open PySem L2
/-! ### the places that lack; sums turned over -/
def lack (n : Nat) (ps : List Int) : List Int := (rangeI n).filter fun w => decide (w ∉ ps)
theorem lack_mem {n : Nat} {ps : List Int} {w : Int} : w ∈ lack n ps ↔ (0 ≤ w ∧ w < n) ∧ w ∉ ps := by
  unfold lack
  rw [List.mem_filter, rangeI_mem, decide_eq_true_eq]
theorem rangeI_asc (n : Nat) : Asc (rangeI n) := by
  unfold rangeI
  rw [Asc, List.pairwise_map]
  exact (List.pairwise_lt_range (n := n)).imp fun h => by omega
theorem lack_asc (n : Nat) (ps : List Int) : Asc (lack n ps) := List.Pairwise.filter _ (rangeI_asc n)
theorem lack_len (n : Nat) (ps : List Int) : (lack n ps).length ≤ n := by
  have := List.length_filter_le (fun w => decide (w ∉ ps)) (rangeI n)
  rw [rangeI_len] at this
  exact this
def turn1 (n : Nat) (t : Tm) : Tm := (lack n t.1, t.2 * sg (t.1 ++ lack n t.1))
def turnT (n : Nat) (s : List Tm) : List Tm := s.map (turn1 n)
theorem turnT_snoc (n : Nat) (us : List Tm) (t : Tm) : tms (turnT n (us ++ [t])) = .lst ((turnT n us).map tmD ++ [tmD (turn1 n t)]) := by
  unfold tms turnT
  rw [List.map_append, List.map_append]; rfl
theorem fl_int (i : Int) : flD (.int i) = some (.int i) := rfl
theorem fls_ints : ∀ ns : List Int, flDs (ns.map D.int) = some (ns.map V.int)
  | [] => rfl
  | n :: ns => by
    show (match flD (.int n), flDs (ns.map D.int) with | some v, some vs => some (v :: vs) | _, _ => none) = _
    rw [fls_ints ns]; rfl
theorem inV_ints (i : Int) (ns : List Int) : inV (.int i) (ns.map V.int) = decide (i ∈ ns) := by
  unfold inV
  induction ns with
  | nil => rfl
  | cons n ns ih =>
    rw [List.map_cons, List.any_cons, ih]
    have : eqV (.int n) (.int i) = decide (n = i) := rfl
    rw [this]
    by_cases e : i = n
    · simp [e]
    · simp [e, Ne.symm e]
theorem item_pa {x y : D} {K : D → Prop} (hx : x.live) (h : K x) : itemD (.tup [x, y]) 0 K := ⟨hx, h⟩
theorem item_pb {x y : D} {K : D → Prop} (hy : y.live) (h : K y) : itemD (.tup [x, y]) 1 K := ⟨hy, h⟩
def okTu (n : Nat) (s : List Tm) : Prop := s.length ≤ 100000 ∧ (∀ t ∈ s, t.1.length ≤ 900)
def sem_turned_over : FSem := fun ds Q X => ∃ (many : Int) (s : List Tm), ds = [.int many, tms s] ∧ ((many < 1 ∨ 5 < many) → X (.exc "BadCount" [] [])) ∧ (¬ (many < 1 ∨ 5 < many) → okTu many.toNat s ∧ Q (tms (sortT (turnT many.toNat s))))
theorem lc_lack {n : Nat} {ps : List Int} {tg : Tg} {cond : Dat → (Bool → Prop) → Prop} {elt : Dat → (D → Prop) → Prop} {ρ : Dat} {K : Dat → Prop} (hf : ∀ w : Int, ∀ (R : D → Prop) (S : Prop), (if decide (w ∉ ps) = true then R (.int w) else S) → tgD tg (.int w) ρ fun ρ' => cond ρ' fun b => if b = true then elt ρ' R else S)
    (h : K ((lack n ps).map D.int)) : goLC tg cond elt ρ ((List.range n).map fun k => .int (k : Nat)) K := by
  rw [map_range_int]
  exact goLC_ofF (g := D.int) (xs := rangeI n) (p := fun w => decide (w ∉ ps)) (f := D.int) (fun w _ R S r => hf w R S r) h
theorem wp_turned_over {Ω : Str → FSem} (h : Ω "ordered" = sem_ordered) : ∀ ds Q X, ds.length = P_turned_over.length → sem_turned_over ds Q X → wpS Ω ci0 ir_turned_over (holesTo ds N_turned_over.length) (poOf Q X) := by
  rintro ds Q X _ ⟨many, s, rfl, hx, hq⟩
  show wpS Ω _ ir_turned_over [.int many, tms s, .hole, .hole, .hole, .hole, .hole] (poOf Q X)
  unfold ir_turned_over
  simp only [wpS, wpE, List.getD_cons_zero, List.getD_cons_succ, List.set_cons_zero, List.set_cons_succ, List.length_map, List.length_cons, List.length_nil, wipeD, cmpI, s_asI, s_asB, s_asL, s_asT, s_asS, s_lvI, s_lvB, s_lvL, s_lvT, s_lvN, s_lvS, s_lvX, s_add, s_sub, s_mul, s_fdiv, s_mod, s_pow, s_lenL, s_lenT, s_abs, s_min, s_max, s_sum, s_any, s_all, s_intI, s_intB, s_list, s_listT, s_tupL, s_tupT, s_one, s_many, s_set, s_set0, s_imI, s_imB, s_imN, s_imT, s_nx, s_rt, s_ex, s_t0, s_t1, s_l0, s_l1, s_asD, s_keyI, s_optS, s_seqL, s_seqT, s_lvD, s_isi7, s_isN1, s_isN2, s_isN3, s_isN4, s_isN5, isNil, asO, s_i1, s_i2, s_i3, s_i4, s_i5, s_i6, eqd_int, eqd_bl, true_and, and_true, decide_eq_true_eq, if_true, ite_true, ite_false, Bool.not_eq_true', decide_eq_false_iff_not, Bool.false_eq_true, Bool.not_false, Bool.not_true, not_true_eq_false, Bool.true_eq_false, h]
  by_cases c : many < 1 ∨ 5 < many
  · have hx := hx c
    by_cases c1 : many < 1
    · rw [if_pos c1]; exact hx
    · rw [if_neg c1, if_pos (by omega)]; exact hx
  · obtain ⟨ok, hq⟩ := hq c
    rw [if_neg (by omega), if_neg (by omega)]
    obtain ⟨n, rfl⟩ : ∃ n : Nat, many = n := ⟨many.toNat, by omega⟩
    rw [Int.toNat_natCast] at ok hq
    refine goFor_of (fun us ρ => ∃ (x3 x4 x5 : D), ρ = [.int n, tms s, tms (turnT n us), x3, x4, x5, .hole]) ⟨_, _, _, rfl⟩ ?_ ?_
    · rintro us ⟨ps, v⟩ zs ρ Pn hs ⟨x3, x4, x5, rfl⟩ hn
      have ha : ((ps, v) : Tm) ∈ s := by rw [hs]; simp
      have hps := ok.2 _ ha
      dsimp only at hps
      simp only [wpS, wpE, List.getD_cons_zero, List.getD_cons_succ, List.set_cons_zero, List.set_cons_succ, List.length_map, List.length_cons, List.length_nil, wipeD, cmpI, s_asI, s_asB, s_asL, s_asT, s_asS, s_lvI, s_lvB, s_lvL, s_lvT, s_lvN, s_lvS, s_lvX, s_add, s_sub, s_mul, s_fdiv, s_mod, s_pow, s_lenL, s_lenT, s_abs, s_min, s_max, s_sum, s_any, s_all, s_intI, s_intB, s_list, s_listT, s_tupL, s_tupT, s_one, s_many, s_set, s_set0, s_imI, s_imB, s_imN, s_imT, s_nx, s_rt, s_ex, s_t0, s_t1, s_l0, s_l1, s_asD, s_keyI, s_optS, s_seqL, s_seqT, s_lvD, s_isi7, s_isN1, s_isN2, s_isN3, s_isN4, s_isN5, isNil, asO, s_i1, s_i2, s_i3, s_i4, s_i5, s_i6, eqd_int, eqd_bl, true_and, and_true, decide_eq_true_eq, if_true, ite_true, ite_false, Bool.not_eq_true', decide_eq_false_iff_not, Bool.false_eq_true, Bool.not_false, Bool.not_true, not_true_eq_false, Bool.true_eq_false]
      refine ⟨by unfold small; omega, by rw [List.length_range]; unfold LIM; omega, lc_lack (ps := ps) (fun w R S r => ?_) ?_⟩
      · simp only [wpS, wpE, List.getD_cons_zero, List.getD_cons_succ, List.set_cons_zero, List.set_cons_succ, List.length_map, List.length_cons, List.length_nil, wipeD, cmpI, s_asI, s_asB, s_asL, s_asT, s_asS, s_lvI, s_lvB, s_lvL, s_lvT, s_lvN, s_lvS, s_lvX, s_add, s_sub, s_mul, s_fdiv, s_mod, s_pow, s_lenL, s_lenT, s_abs, s_min, s_max, s_sum, s_any, s_all, s_intI, s_intB, s_list, s_listT, s_tupL, s_tupT, s_one, s_many, s_set, s_set0, s_imI, s_imB, s_imN, s_imT, s_nx, s_rt, s_ex, s_t0, s_t1, s_l0, s_l1, s_asD, s_keyI, s_optS, s_seqL, s_seqT, s_lvD, s_isi7, s_isN1, s_isN2, s_isN3, s_isN4, s_isN5, isNil, asO, s_i1, s_i2, s_i3, s_i4, s_i5, s_i6, eqd_int, eqd_bl, true_and, and_true, decide_eq_true_eq, if_true, ite_true, ite_false, Bool.not_eq_true', decide_eq_false_iff_not, Bool.false_eq_true, Bool.not_false, Bool.not_true, not_true_eq_false, Bool.true_eq_false, fl_int, fls_ints, inV_ints]
        simpa using r
      · have l1 := lack_len n ps
        simp only [wpS, wpE, List.getD_cons_zero, List.getD_cons_succ, List.set_cons_zero, List.set_cons_succ, List.length_map, List.length_cons, List.length_nil, wipeD, cmpI, s_asI, s_asB, s_asL, s_asT, s_asS, s_lvI, s_lvB, s_lvL, s_lvT, s_lvN, s_lvS, s_lvX, s_add, s_sub, s_mul, s_fdiv, s_mod, s_pow, s_lenL, s_lenT, s_abs, s_min, s_max, s_sum, s_any, s_all, s_intI, s_intB, s_list, s_listT, s_tupL, s_tupT, s_one, s_many, s_set, s_set0, s_imI, s_imB, s_imN, s_imT, s_nx, s_rt, s_ex, s_t0, s_t1, s_l0, s_l1, s_asD, s_keyI, s_optS, s_seqL, s_seqT, s_lvD, s_isi7, s_isN1, s_isN2, s_isN3, s_isN4, s_isN5, isNil, asO, s_i1, s_i2, s_i3, s_i4, s_i5, s_i6, eqd_int, eqd_bl, true_and, and_true, decide_eq_true_eq, if_true, ite_true, ite_false, Bool.not_eq_true', decide_eq_false_iff_not, Bool.false_eq_true, Bool.not_false, Bool.not_true, not_true_eq_false, Bool.true_eq_false]
        rw [Int.toNat_natCast]
        have tl := us.length
        refine ⟨fun _ => imms_map _, imms_map _, ⟨by unfold LIM; omega, imms_map _, imms_map _⟩, ps ++ lack n ps, by rw [tupI, List.map_append], by rw [List.length_append]; omega, ?_⟩
        refine item_pa trivial ?_
        simp only [wpS, wpE, List.getD_cons_zero, List.getD_cons_succ, List.set_cons_zero, List.set_cons_succ, List.length_map, List.length_cons, List.length_nil, wipeD, cmpI, s_asI, s_asB, s_asL, s_asT, s_asS, s_lvI, s_lvB, s_lvL, s_lvT, s_lvN, s_lvS, s_lvX, s_add, s_sub, s_mul, s_fdiv, s_mod, s_pow, s_lenL, s_lenT, s_abs, s_min, s_max, s_sum, s_any, s_all, s_intI, s_intB, s_list, s_listT, s_tupL, s_tupT, s_one, s_many, s_set, s_set0, s_imI, s_imB, s_imN, s_imT, s_nx, s_rt, s_ex, s_t0, s_t1, s_l0, s_l1, s_asD, s_keyI, s_optS, s_seqL, s_seqT, s_lvD, s_isi7, s_isN1, s_isN2, s_isN3, s_isN4, s_isN5, isNil, asO, s_i1, s_i2, s_i3, s_i4, s_i5, s_i6, eqd_int, eqd_bl, true_and, and_true, decide_eq_true_eq, if_true, ite_true, ite_false, Bool.not_eq_true', decide_eq_false_iff_not, Bool.false_eq_true, Bool.not_false, Bool.not_true, not_true_eq_false, Bool.true_eq_false]
        refine ⟨mulok_r (by have := sg_le (ps ++ lack n ps); omega), ?_, ?_⟩
        · unfold turnT
          rw [List.length_map]
          have e1 : us.length ≤ s.length := by rw [hs]; simp
          have := ok.1
          unfold LIM
          omega
        · refine hn _ ⟨tupI ps, .int v, tupI (lack n ps), ?_⟩
          rw [turnT_snoc]
          rfl
    · rintro ρ ⟨x3, x4, x5, rfl⟩
      simp only [wpS, wpE, List.getD_cons_zero, List.getD_cons_succ, List.set_cons_zero, List.set_cons_succ, List.length_map, List.length_cons, List.length_nil, wipeD, cmpI, s_asI, s_asB, s_asL, s_asT, s_asS, s_lvI, s_lvB, s_lvL, s_lvT, s_lvN, s_lvS, s_lvX, s_add, s_sub, s_mul, s_fdiv, s_mod, s_pow, s_lenL, s_lenT, s_abs, s_min, s_max, s_sum, s_any, s_all, s_intI, s_intB, s_list, s_listT, s_tupL, s_tupT, s_one, s_many, s_set, s_set0, s_imI, s_imB, s_imN, s_imT, s_nx, s_rt, s_ex, s_t0, s_t1, s_l0, s_l1, s_asD, s_keyI, s_optS, s_seqL, s_seqT, s_lvD, s_isi7, s_isN1, s_isN2, s_isN3, s_isN4, s_isN5, isNil, asO, s_i1, s_i2, s_i3, s_i4, s_i5, s_i6, eqd_int, eqd_bl, true_and, and_true, decide_eq_true_eq, if_true, ite_true, ite_false, Bool.not_eq_true', decide_eq_false_iff_not, Bool.false_eq_true, Bool.not_false, Bool.not_true, not_true_eq_false, Bool.true_eq_false]
      exact s_srtT hq
/-! ### sums weighed -/
def look (o : List Tm) (p : List Int) : Int := (o.map fun u => if u.1 = p then u.2 else 0).sum
def wt (a o : List Tm) : Int := (a.map fun t => t.2 * look o t.1).sum
theorem look_out {o : List Tm} {p : List Int} (h : p ∉ o.map (·.1)) : look o p = 0 := by
  unfold look
  induction o with
  | nil => rfl
  | cons u o ih =>
    have h1 : u.1 ≠ p := fun e => h (by rw [← e]; simp)
    have h2 : p ∉ o.map (·.1) := fun e => h (List.mem_cons_of_mem _ e)
    rw [List.map_cons, List.sum_cons, if_neg h1, ih h2]; rfl
theorem get_look {o : List Tm} (nd : (o.map (·.1)).Nodup) (p : List Int) : (getD' o p).getD 0 = look o p := by
  induction o with
  | nil => rfl
  | cons u o ih =>
    rw [List.map_cons, List.nodup_cons] at nd
    rw [getD_cons]
    unfold look
    rw [List.map_cons, List.sum_cons]
    by_cases e : u.1 = p
    · rw [if_pos e, if_pos e]
      have := look_out (o := o) (p := p) (by rw [← e]; exact nd.1)
      unfold look at this
      rw [this]; simp
    · rw [if_neg e, if_neg e, ih nd.2]
      unfold look
      omega
theorem fold_put : ∀ (l d : List Tm), ((d ++ l).map (·.1)).Nodup → l.foldl (fun a p => putD a p.1 p.2) d = d ++ l
  | [], d, _ => by simp
  | p :: l, d, h => by
    have e : putD d p.1 p.2 = d ++ [p] := by
      unfold putD
      rw [if_neg]
      rw [List.any_eq_true]
      rintro ⟨x, hx, hp⟩
      have hp := of_decide_eq_true hp
      rw [List.map_append, List.nodup_append] at h
      exact h.2.2 x.1 (List.mem_map_of_mem hx) p.1 (by simp) hp
    rw [List.foldl_cons, e, fold_put l (d ++ [p]) (by rw [List.append_assoc]; exact h), List.append_assoc]; rfl
theorem pairs_tms : ∀ ts : List Tm, pairsD (ts.map tmD) = some ts
  | [] => rfl
  | t :: ts => by
    show (match intsOf (t.1.map D.int), pairsD (ts.map tmD) with | some ns, some r => some ((ns, t.2) :: r) | _, _ => none) = _
    rw [intsOf_map, pairs_tms ts]
def sem_weighed_sums : FSem := fun ds Q _ => ∃ a o : List Tm, ds = [tms a, tms o] ∧ (o.map (·.1)).Nodup ∧ a.length ≤ LIM ∧ (∀ t ∈ a, t.2.natAbs < 2 ^ 64) ∧ Q (.int (wt a o))
theorem wp_weighed_sums {Ω : Str → FSem} : ∀ ds Q X, ds.length = P_weighed_sums.length → sem_weighed_sums ds Q X → wpS Ω ci0 ir_weighed_sums (holesTo ds N_weighed_sums.length) (poOf Q X) := by
  rintro ds Q X _ ⟨a, o, rfl, nd, hl, hb, hq⟩
  show wpS Ω _ ir_weighed_sums [tms a, tms o, .hole, .hole, .hole] (poOf Q X)
  unfold ir_weighed_sums
  simp only [wpS, wpE, List.getD_cons_zero, List.getD_cons_succ, List.set_cons_zero, List.set_cons_succ, List.length_map, List.length_cons, List.length_nil, wipeD, cmpI, s_asI, s_asB, s_asL, s_asT, s_asS, s_lvI, s_lvB, s_lvL, s_lvT, s_lvN, s_lvS, s_lvX, s_add, s_sub, s_mul, s_fdiv, s_mod, s_pow, s_lenL, s_lenT, s_abs, s_min, s_max, s_sum, s_any, s_all, s_intI, s_intB, s_list, s_listT, s_tupL, s_tupT, s_one, s_many, s_set, s_set0, s_imI, s_imB, s_imN, s_imT, s_nx, s_rt, s_ex, s_t0, s_t1, s_l0, s_l1, s_asD, s_keyI, s_optS, s_seqL, s_seqT, s_lvD, s_isi7, s_isN1, s_isN2, s_isN3, s_isN4, s_isN5, isNil, asO, s_i1, s_i2, s_i3, s_i4, s_i5, s_i6, eqd_int, eqd_bl, true_and, and_true, decide_eq_true_eq, if_true, ite_true, ite_false, Bool.not_eq_true', decide_eq_false_iff_not, Bool.false_eq_true, Bool.not_false, Bool.not_true, not_true_eq_false, Bool.true_eq_false, pairs_tms]
  rw [fold_put o [] nd, List.nil_append]
  refine ⟨hl, goLC_of (g := tmD) (xs := a) (f := fun t => .int (t.2 * look o t.1)) (fun t ht R S r => ?_) ?_⟩
  · simp only [wpS, wpE, List.getD_cons_zero, List.getD_cons_succ, List.set_cons_zero, List.set_cons_succ, List.length_map, List.length_cons, List.length_nil, wipeD, cmpI, s_asI, s_asB, s_asL, s_asT, s_asS, s_lvI, s_lvB, s_lvL, s_lvT, s_lvN, s_lvS, s_lvX, s_add, s_sub, s_mul, s_fdiv, s_mod, s_pow, s_lenL, s_lenT, s_abs, s_min, s_max, s_sum, s_any, s_all, s_intI, s_intB, s_list, s_listT, s_tupL, s_tupT, s_one, s_many, s_set, s_set0, s_imI, s_imB, s_imN, s_imT, s_nx, s_rt, s_ex, s_t0, s_t1, s_l0, s_l1, s_asD, s_keyI, s_optS, s_seqL, s_seqT, s_lvD, s_isi7, s_isN1, s_isN2, s_isN3, s_isN4, s_isN5, isNil, asO, s_i1, s_i2, s_i3, s_i4, s_i5, s_i6, eqd_int, eqd_bl, true_and, and_true, decide_eq_true_eq, if_true, ite_true, ite_false, Bool.not_eq_true', decide_eq_false_iff_not, Bool.false_eq_true, Bool.not_false, Bool.not_true, not_true_eq_false, Bool.true_eq_false, get_look nd]
    exact ⟨mulok_l (hb t ht), r⟩
  · have e : a.map (fun t => D.int (t.2 * look o t.1)) = (a.map fun t => t.2 * look o t.1).map D.int := by rw [List.map_map]; rfl
    rw [e]
    simp only [wpS, wpE, List.getD_cons_zero, List.getD_cons_succ, List.set_cons_zero, List.set_cons_succ, List.length_map, List.length_cons, List.length_nil, wipeD, cmpI, s_asI, s_asB, s_asL, s_asT, s_asS, s_lvI, s_lvB, s_lvL, s_lvT, s_lvN, s_lvS, s_lvX, s_add, s_sub, s_mul, s_fdiv, s_mod, s_pow, s_lenL, s_lenT, s_abs, s_min, s_max, s_sum, s_any, s_all, s_intI, s_intB, s_list, s_listT, s_tupL, s_tupT, s_one, s_many, s_set, s_set0, s_imI, s_imB, s_imN, s_imT, s_nx, s_rt, s_ex, s_t0, s_t1, s_l0, s_l1, s_asD, s_keyI, s_optS, s_seqL, s_seqT, s_lvD, s_isi7, s_isN1, s_isN2, s_isN3, s_isN4, s_isN5, isNil, asO, s_i1, s_i2, s_i3, s_i4, s_i5, s_i6, eqd_int, eqd_bl, true_and, and_true, decide_eq_true_eq, if_true, ite_true, ite_false, Bool.not_eq_true', decide_eq_false_iff_not, Bool.false_eq_true, Bool.not_false, Bool.not_true, not_true_eq_false, Bool.true_eq_false]
    exact hq
end FM.Lib

set_option Elab.async false
set_option linter.all false
set_option maxRecDepth 100000
namespace FM.Lib
open PySem L2
/-! ### _law_same -/
def N__law_same : List Str := ["found", "due", "number"]
def P__law_same : List Str := ["found", "due"]
def ir__law_same : IS :=
  .cons (.ite (.or (.not (.isi (.var 0) .list)) (.eq true (.blt .len (.cons (.var 0) .nil)) (.blt .len (.cons (.var 1) .nil)))) (.cons (.ret (.bl false)) .nil) .nil) (.cons (.ret (.and (.blt .all (.cons (.lc [("number", 2)] (.call "_law_whole" (.cons (.var 2) .nil)) (.one 2) (.var 0) (.bl true)) .nil)) (.eq false (.var 0) (.var 1)))) .nil)
/-! ### _law_same_rows -/
def N__law_same_rows : List Str := ["found", "due", "one", "other"]
def P__law_same_rows : List Str := ["found", "due"]
def ir__law_same_rows : IS :=
  .cons (.ite (.or (.not (.isi (.var 0) .list)) (.eq true (.blt .len (.cons (.var 0) .nil)) (.blt .len (.cons (.var 1) .nil)))) (.cons (.ret (.bl false)) .nil) .nil) (.cons (.ret (.blt .all (.cons (.lc [("one", 2), ("other", 3)] (.call "_law_same" (.cons (.var 2) (.cons (.var 3) .nil))) (.many [2, 3]) (.zip (.var 0) (.var 1)) (.bl true)) .nil))) .nil)
/-! ### _law_table -/
def N__law_table : List Str := ["script", "start", "many", "cell", "size", "numbers", "k", "number", "table", "a", "b"]
def P__law_table : List Str := ["script", "start", "many", "cell"]
def ir__law_table_r6 : IS :=
  .cons (.ret (.mv 8)) .nil
def ir__law_table_r4 : IS :=
  .cons (.set 8 (.lc [("k", 6)] (.slc true (.var 5) (.bin .mul (.var 6) (.var 2)) (.bin .add (.bin .mul (.var 6) (.var 2)) (.var 2))) (.one 6) (.rng1 (.var 2)) (.bl true))) (.cons (.ite (.and (.eq false (.bin .mod (.bin .fdiv (.var 3) (.int 48)) (.int 4)) (.int 1)) (.cmp .gt (.var 2) (.int 1))) (.cons (.setix 8 (.neg (.int 1)) (.lc [("a", 9), ("b", 10)] (.bin .sub (.bin .mul (.int 2) (.var 9)) (.var 10)) (.many [9, 10]) (.zip (.ix (.bor 8) (.int 0)) (.ix (.bor 8) (.bin .sub (.bin .fdiv (.var 2) (.int 2)) (.int 1)))) (.bl true))) .nil) .nil) ir__law_table_r6)
def ir__law_table_r2 : IS :=
  .cons (.set 5 (.call "_law_numbers" (.cons (.var 0) (.cons (.var 1) (.cons (.bin .mul (.var 2) (.var 2)) (.cons (.bor 4) .nil)))))) (.cons (.ite (.eq false (.bin .mod (.bin .fdiv (.var 3) (.int 16)) (.int 3)) (.int 1)) (.cons (.set 5 (.lc [("k", 6), ("number", 7)] (.bin .mul (.var 7) (.bin .mod (.bin .add (.bin .fdiv (.var 7) (.int 3)) (.bin .mul (.var 6) (.var 6))) (.int 2))) (.many [6, 7]) (.enm (.bor 5)) (.bl true))) .nil) .nil) ir__law_table_r4)
def ir__law_table : IS :=
  .cons (.set 4 (.ix (.lst (.cons (.int 3) (.cons (.int 9) (.cons (.bin .pow (.int 10) (.int 9)) (.cons (.int 3) .nil))))) (.bin .mod (.var 3) (.int 4)))) (.cons (.ite (.and (.cmp .lt (.var 2) (.int 4)) (.eq false (.bin .mod (.bin .fdiv (.var 3) (.int 4)) (.int 4)) (.int 1))) (.cons (.set 4 (.bin .pow (.int 10) (.int 40))) .nil) .nil) ir__law_table_r2)
/-! ### look_at_table -/
def N_look_at_table : List Str := ["table", "line"]
def P_look_at_table : List Str := ["table"]
def ir_look_at_table : IS :=
  .cons (.ite (.or (.cmp .lt (.blt .len (.cons (.var 0) .nil)) (.int 1)) (.cmp .gt (.blt .len (.cons (.var 0) .nil)) (.gint "WAYS" 5))) (.cons (.raise "BadTable") .nil) .nil) (.cons (.for (.one 1) (.var 0) [.frz, .dead] (.cons (.ite (.eq true (.blt .len (.cons (.var 1) .nil)) (.blt .len (.cons (.var 0) .nil))) (.cons (.raise "BadTable") .nil) .nil) .nil)) .nil)
/-! ### moved -/
def N_moved : List Str := ["table", "row", "line"]
def P_moved : List Str := ["table", "row"]
def ir_moved : IS :=
  .cons (.drop (.call "look_at_table" (.cons (.var 0) .nil))) (.cons (.ite (.eq true (.blt .len (.cons (.var 1) .nil)) (.blt .len (.cons (.var 0) .nil))) (.cons (.raise "BadRow") .nil) .nil) (.cons (.ret (.lc [("line", 2)] (.call "weighed" (.cons (.var 2) (.cons (.var 1) .nil))) (.one 2) (.var 0) (.bl true))) .nil))
/-! ### columns_of -/
def N_columns_of : List Str := ["many", "rows", "row", "way"]
def P_columns_of : List Str := ["many", "rows"]
def ir_columns_of : IS :=
  .cons (.ret (.lc [("way", 3)] (.lc [("row", 2)] (.imm (.ix (.var 2) (.var 3))) (.one 2) (.var 1) (.bl true)) (.one 3) (.rng1 (.var 0)) (.bl true))) .nil
/-! ### behind -/
def N_behind : List Str := ["one", "other", "columns", "column", "line"]
def P_behind : List Str := ["one", "other"]
def ir_behind : IS :=
  .cons (.drop (.call "look_at_table" (.cons (.var 0) .nil))) (.cons (.drop (.call "look_at_table" (.cons (.var 1) .nil))) (.cons (.ite (.eq true (.blt .len (.cons (.var 0) .nil)) (.blt .len (.cons (.var 1) .nil))) (.cons (.raise "NotAlike") .nil) .nil) (.cons (.set 2 (.call "columns_of" (.cons (.blt .len (.cons (.var 1) .nil)) (.cons (.var 1) .nil)))) (.cons (.ret (.lc [("line", 4)] (.lc [("column", 3)] (.call "weighed" (.cons (.var 4) (.cons (.var 3) .nil))) (.one 3) (.var 2) (.bl true)) (.one 4) (.var 0) (.bl true))) .nil))))
/-! ### _law_through -/
def N__law_through : List Str := ["one", "other", "found", "line", "row", "k", "j", "number"]
def P__law_through : List Str := ["one", "other"]
def ir__law_through : IS :=
  .cons (.set 2 (.lst .nil)) (.cons (.for (.one 3) (.var 0) [.frz, .frz, .deep, .dead, .dead, .dead, .dead, .dead] (.cons (.set 4 (.lst .nil)) (.cons (.for (.one 5) (.rng1 (.blt .len (.cons (.ix (.var 1) (.int 0)) .nil))) [.frz, .frz, .deep, .frz, .deep, .dead, .dead, .dead] (.cons (.app 4 (.blt .sum (.cons (.lc [("j", 6), ("number", 7)] (.bin .mul (.var 7) (.ix (.ix (.var 1) (.var 6)) (.var 5))) (.many [6, 7]) (.enm (.var 3)) (.bl true)) .nil))) .nil)) (.cons (.app 2 (.mv 4)) .nil)))) (.cons (.ret (.mv 2)) .nil))
end FM.Lib

set_option Elab.async false
set_option linter.all false
set_option maxRecDepth 100000
namespace FM.Lib
open PySem L2
/-! ### tables -/
abbrev LL (rs : List (List Int)) : D := .lst (rs.map fun r => .lst (r.map D.int))
def dot (a b : List Int) : Int := (List.zipWith (· * ·) a b).sum
def mv (A : List (List Int)) (r : List Int) : List Int := A.map fun a => dot a r
def col (j : Nat) (A : List (List Int)) : List Int := A.map fun r => r.getD j 0
def cols (n : Nat) (A : List (List Int)) : List (List Int) := (List.range n).map fun j => col j A
def mulM (A B : List (List Int)) : List (List Int) := A.map fun a => (cols B.length B).map fun c => dot a c
def Bd (k : Nat) (r : List Int) : Prop := ∀ x ∈ r, x.natAbs < 2 ^ k
def BdM (k : Nat) (A : List (List Int)) : Prop := ∀ r ∈ A, Bd k r
theorem dot_cons (x y : Int) (a b : List Int) : dot (x :: a) (y :: b) = x * y + dot a b := by unfold dot; rw [List.zipWith_cons_cons, List.sum_cons]
theorem dot_nil (b : List Int) : dot [] b = 0 := rfl
theorem dot_nil' (a : List Int) : dot a [] = 0 := by unfold dot; rw [List.zipWith_nil_right]; rfl
theorem dot_bd {k l : Nat} : ∀ {a b : List Int}, Bd k a → Bd l b → (dot a b).natAbs ≤ a.length * 2 ^ (k + l)
  | [], _, _, _ => by rw [dot_nil]; simp
  | _ :: _, [], _, _ => by rw [dot_nil']; simp
  | x :: a, y :: b, ha, hb => by
    have h1 := ha x List.mem_cons_self
    have h2 := hb y List.mem_cons_self
    have h3 := dot_bd (fun z hz => ha z (List.mem_cons_of_mem _ hz)) (fun z hz => hb z (List.mem_cons_of_mem _ hz))
    rw [dot_cons, List.length_cons, Nat.succ_mul]
    have h4 : (x * y).natAbs ≤ 2 ^ (k + l) := by
      rw [Int.natAbs_mul, Nat.pow_add]
      exact Nat.mul_le_mul (Nat.le_of_lt h1) (Nat.le_of_lt h2)
    omega
theorem dot_bd5 {k l : Nat} {a b : List Int} (h : a.length ≤ 7) (ha : Bd k a) (hb : Bd l b) : (dot a b).natAbs < 2 ^ (k + l + 3) := by
  have := dot_bd ha hb
  have : a.length * 2 ^ (k + l) ≤ 7 * 2 ^ (k + l) := Nat.mul_le_mul_right _ h
  have : 0 < 2 ^ (k + l) := Nat.two_pow_pos _
  rw [Nat.pow_add _ (k + l) 3]
  omega
theorem bd_col {k j : Nat} {A : List (List Int)} (h : BdM k A) : Bd k (col j A) := fun x hx => by
  obtain ⟨r, hr, rfl⟩ := List.mem_map.mp hx
  by_cases c : j < r.length
  · rw [getD_get c]; exact h r hr _ (List.getElem_mem c)
  · rw [List.getD_eq_getElem?_getD, List.getElem?_eq_none (by omega)]
    exact Nat.two_pow_pos _
theorem mv_bd {k l : Nat} {A : List (List Int)} {r : List Int} (hA : BdM k A) (hl : ∀ a ∈ A, a.length ≤ 7) (hr : Bd l r) : Bd (k + l + 3) (mv A r) := fun x hx => by
  obtain ⟨a, ha, rfl⟩ := List.mem_map.mp hx
  exact dot_bd5 (hl a ha) (hA a ha) hr
theorem mul_bd {k l : Nat} {A B : List (List Int)} (hA : BdM k A) (hl : ∀ a ∈ A, a.length ≤ 7) (hB : BdM l B) : BdM (k + l + 3) (mulM A B) := fun r hr x hx => by
  obtain ⟨a, ha, rfl⟩ := List.mem_map.mp hr
  obtain ⟨c, hc, rfl⟩ := List.mem_map.mp hx
  obtain ⟨j, _, rfl⟩ := List.mem_map.mp hc
  exact dot_bd5 (hl a ha) (hA a ha) (bd_col hB)
theorem mul_ok {k l : Nat} {a b : List Int} (ha : Bd k a) (hb : Bd l b) (h : k + l ≤ 2 ^ 20) : ∀ x ∈ a, ∀ y ∈ b, IntMulOk x y := fun x hx y hy => mulok_bits (ha x hx) (hb y hy) h
/-! ### what the defs answer -/
def sem_look_alike : FSem := fun ds Q X => ∃ a b : List Int, ds = [LI a, LI b] ∧ (a.length = b.length → Q .non) ∧ (a.length ≠ b.length → X (.exc "NotAlike" [] []))
theorem wp_look_alike {Ω : Str → FSem} : ∀ ds Q X, ds.length = P_look_alike.length → sem_look_alike ds Q X → wpS Ω ci0 ir_look_alike (holesTo ds N_look_alike.length) (poOf Q X) := by
  rintro ds Q X _ ⟨a, b, rfl, hq, hx⟩
  show wpS Ω _ ir_look_alike [LI a, LI b] (poOf Q X)
  unfold ir_look_alike
  simp only [wpS, wpE, List.getD_cons_zero, List.getD_cons_succ, List.set_cons_zero, List.set_cons_succ, List.length_map, List.length_cons, List.length_nil, wipeD, cmpI, s_asI, s_asB, s_asL, s_asT, s_asS, s_lvI, s_lvB, s_lvL, s_lvT, s_lvN, s_lvS, s_lvX, s_add, s_sub, s_mul, s_fdiv, s_mod, s_pow, s_lenL, s_lenT, s_abs, s_min, s_max, s_sum, s_any, s_all, s_intI, s_intB, s_list, s_listT, s_tupL, s_tupT, s_one, s_many, s_set, s_set0, s_imI, s_imB, s_imN, s_imT, s_nx, s_rt, s_ex, s_t0, s_t1, s_l0, s_l1, s_asD, s_keyI, s_optS, s_seqL, s_seqT, s_lvD, s_isi7, s_isN1, s_isN2, s_isN3, s_isN4, s_isN5, isNil, asO, s_i1, s_i2, s_i3, s_i4, s_i5, s_i6, eqd_int, eqd_bl, true_and, and_true, decide_eq_true_eq, if_true, ite_true, ite_false, Bool.not_eq_true', decide_eq_false_iff_not, Bool.false_eq_true, Bool.not_false, Bool.not_true, not_true_eq_false, Bool.true_eq_false]
  by_cases c : a.length = b.length
  · rw [if_neg (by omega)]
    exact hq c
  · rw [if_pos (by omega)]
    exact hx c
def sem_weighed : FSem := fun ds Q X => ∃ a b : List Int, ds = [LI a, LI b] ∧ a.length ≤ LIM ∧ a.length = b.length ∧ (∀ x ∈ a, ∀ y ∈ b, IntMulOk x y) ∧ Q (.int (dot a b))
theorem zip_I (a b : List Int) : List.zipWith (fun p q => D.tup [p, q]) (a.map D.int) (b.map D.int) = (a.zip b).map fun p => .tup [.int p.1, .int p.2] := by
  induction a generalizing b with
  | nil => rfl
  | cons x a ih =>
    cases b with
    | nil => rfl
    | cons y b =>
      rw [List.map_cons, List.map_cons, List.zipWith_cons_cons, ih b, List.zip_cons_cons, List.map_cons]
theorem wp_weighed {Ω : Str → FSem} (h : Ω "look_alike" = sem_look_alike) : ∀ ds Q X, ds.length = P_weighed.length → sem_weighed ds Q X → wpS Ω ci0 ir_weighed (holesTo ds N_weighed.length) (poOf Q X) := by
  rintro ds Q X _ ⟨a, b, rfl, hl, he, hm, hq⟩
  show wpS Ω _ ir_weighed [LI a, LI b, .hole, .hole] (poOf Q X)
  unfold ir_weighed
  simp only [wpS, wpE, List.getD_cons_zero, List.getD_cons_succ, List.set_cons_zero, List.set_cons_succ, List.length_map, List.length_cons, List.length_nil, wipeD, cmpI, s_asI, s_asB, s_asL, s_asT, s_asS, s_lvI, s_lvB, s_lvL, s_lvT, s_lvN, s_lvS, s_lvX, s_add, s_sub, s_mul, s_fdiv, s_mod, s_pow, s_lenL, s_lenT, s_abs, s_min, s_max, s_sum, s_any, s_all, s_intI, s_intB, s_list, s_listT, s_tupL, s_tupT, s_one, s_many, s_set, s_set0, s_imI, s_imB, s_imN, s_imT, s_nx, s_rt, s_ex, s_t0, s_t1, s_l0, s_l1, s_asD, s_keyI, s_optS, s_seqL, s_seqT, s_lvD, s_isi7, s_isN1, s_isN2, s_isN3, s_isN4, s_isN5, isNil, asO, s_i1, s_i2, s_i3, s_i4, s_i5, s_i6, eqd_int, eqd_bl, true_and, and_true, decide_eq_true_eq, if_true, ite_true, ite_false, Bool.not_eq_true', decide_eq_false_iff_not, Bool.false_eq_true, Bool.not_false, Bool.not_true, not_true_eq_false, Bool.true_eq_false, h]
  refine ⟨a, b, rfl, fun _ => ?_, fun n => absurd he n⟩
  rw [zip_I]
  refine ⟨by rw [List.length_map, List.length_zip]; unfold LIM at *; omega, goLC_of (g := fun p : Int × Int => .tup [.int p.1, .int p.2]) (xs := a.zip b) (f := fun p => .int (p.1 * p.2)) (fun p hp R S q => ?_) ?_⟩
  · have := List.of_mem_zip (a := p.1) (b := p.2) hp
    simp only [wpS, wpE, List.getD_cons_zero, List.getD_cons_succ, List.set_cons_zero, List.set_cons_succ, List.length_map, List.length_cons, List.length_nil, wipeD, cmpI, s_asI, s_asB, s_asL, s_asT, s_asS, s_lvI, s_lvB, s_lvL, s_lvT, s_lvN, s_lvS, s_lvX, s_add, s_sub, s_mul, s_fdiv, s_mod, s_pow, s_lenL, s_lenT, s_abs, s_min, s_max, s_sum, s_any, s_all, s_intI, s_intB, s_list, s_listT, s_tupL, s_tupT, s_one, s_many, s_set, s_set0, s_imI, s_imB, s_imN, s_imT, s_nx, s_rt, s_ex, s_t0, s_t1, s_l0, s_l1, s_asD, s_keyI, s_optS, s_seqL, s_seqT, s_lvD, s_isi7, s_isN1, s_isN2, s_isN3, s_isN4, s_isN5, isNil, asO, s_i1, s_i2, s_i3, s_i4, s_i5, s_i6, eqd_int, eqd_bl, true_and, and_true, decide_eq_true_eq, if_true, ite_true, ite_false, Bool.not_eq_true', decide_eq_false_iff_not, Bool.false_eq_true, Bool.not_false, Bool.not_true, not_true_eq_false, Bool.true_eq_false]
    exact ⟨hm _ this.1 _ this.2, q⟩
  · have e : (a.zip b).map (fun p => D.int (p.1 * p.2)) = (List.zipWith (· * ·) a b).map D.int := by
      rw [← List.map_uncurry_zip_eq_zipWith, List.map_map]; rfl
    rw [e]
    simp only [wpS, wpE, List.getD_cons_zero, List.getD_cons_succ, List.set_cons_zero, List.set_cons_succ, List.length_map, List.length_cons, List.length_nil, wipeD, cmpI, s_asI, s_asB, s_asL, s_asT, s_asS, s_lvI, s_lvB, s_lvL, s_lvT, s_lvN, s_lvS, s_lvX, s_add, s_sub, s_mul, s_fdiv, s_mod, s_pow, s_lenL, s_lenT, s_abs, s_min, s_max, s_sum, s_any, s_all, s_intI, s_intB, s_list, s_listT, s_tupL, s_tupT, s_one, s_many, s_set, s_set0, s_imI, s_imB, s_imN, s_imT, s_nx, s_rt, s_ex, s_t0, s_t1, s_l0, s_l1, s_asD, s_keyI, s_optS, s_seqL, s_seqT, s_lvD, s_isi7, s_isN1, s_isN2, s_isN3, s_isN4, s_isN5, isNil, asO, s_i1, s_i2, s_i3, s_i4, s_i5, s_i6, eqd_int, eqd_bl, true_and, and_true, decide_eq_true_eq, if_true, ite_true, ite_false, Bool.not_eq_true', decide_eq_false_iff_not, Bool.false_eq_true, Bool.not_false, Bool.not_true, not_true_eq_false, Bool.true_eq_false]
    exact hq
def tabOk (A : List (List Int)) : Prop := (1 ≤ A.length ∧ A.length ≤ 5) ∧ ∀ r ∈ A, r.length = A.length
def xq (C : Str) : D := .exc C [] []
def sem_look_at_table : FSem := fun ds Q X => ∃ A : List (List Int), ds = [LL A] ∧ (tabOk A → Q .non) ∧ (¬ tabOk A → X (xq "BadTable"))
theorem wp_look_at_table {Ω : Str → FSem} : ∀ ds Q X, ds.length = P_look_at_table.length → sem_look_at_table ds Q X → wpS Ω ci0 ir_look_at_table (holesTo ds N_look_at_table.length) (poOf Q X) := by
  rintro ds Q X _ ⟨A, rfl, hq, hx⟩
  show wpS Ω _ ir_look_at_table [LL A, .hole] (poOf Q X)
  unfold ir_look_at_table
  simp only [wpS, wpE, List.getD_cons_zero, List.getD_cons_succ, List.set_cons_zero, List.set_cons_succ, List.length_map, List.length_cons, List.length_nil, wipeD, cmpI, s_asI, s_asB, s_asL, s_asT, s_asS, s_lvI, s_lvB, s_lvL, s_lvT, s_lvN, s_lvS, s_lvX, s_add, s_sub, s_mul, s_fdiv, s_mod, s_pow, s_lenL, s_lenT, s_abs, s_min, s_max, s_sum, s_any, s_all, s_intI, s_intB, s_list, s_listT, s_tupL, s_tupT, s_one, s_many, s_set, s_set0, s_imI, s_imB, s_imN, s_imT, s_nx, s_rt, s_ex, s_t0, s_t1, s_l0, s_l1, s_asD, s_keyI, s_optS, s_seqL, s_seqT, s_lvD, s_isi7, s_isN1, s_isN2, s_isN3, s_isN4, s_isN5, isNil, asO, s_i1, s_i2, s_i3, s_i4, s_i5, s_i6, eqd_int, eqd_bl, true_and, and_true, decide_eq_true_eq, if_true, ite_true, ite_false, Bool.not_eq_true', decide_eq_false_iff_not, Bool.false_eq_true, Bool.not_false, Bool.not_true, not_true_eq_false, Bool.true_eq_false]
  by_cases c1 : 1 ≤ A.length ∧ A.length ≤ 5
  · rw [if_neg (by omega), if_neg (by omega)]
    refine goFor_of (g := fun r => .lst (r.map D.int)) (xs := A) (fun us ρ => ∃ x1, ρ = [LL A, x1] ∧ ∀ r ∈ us, r.length = A.length) ⟨_, rfl, (fun _ h => nomatch h)⟩ ?_ ?_
    · rintro us r zs ρ Pn hs ⟨x1, rfl, hu⟩ hn
      simp only [wpS, wpE, List.getD_cons_zero, List.getD_cons_succ, List.set_cons_zero, List.set_cons_succ, List.length_map, List.length_cons, List.length_nil, wipeD, cmpI, s_asI, s_asB, s_asL, s_asT, s_asS, s_lvI, s_lvB, s_lvL, s_lvT, s_lvN, s_lvS, s_lvX, s_add, s_sub, s_mul, s_fdiv, s_mod, s_pow, s_lenL, s_lenT, s_abs, s_min, s_max, s_sum, s_any, s_all, s_intI, s_intB, s_list, s_listT, s_tupL, s_tupT, s_one, s_many, s_set, s_set0, s_imI, s_imB, s_imN, s_imT, s_nx, s_rt, s_ex, s_t0, s_t1, s_l0, s_l1, s_asD, s_keyI, s_optS, s_seqL, s_seqT, s_lvD, s_isi7, s_isN1, s_isN2, s_isN3, s_isN4, s_isN5, isNil, asO, s_i1, s_i2, s_i3, s_i4, s_i5, s_i6, eqd_int, eqd_bl, true_and, and_true, decide_eq_true_eq, if_true, ite_true, ite_false, Bool.not_eq_true', decide_eq_false_iff_not, Bool.false_eq_true, Bool.not_false, Bool.not_true, not_true_eq_false, Bool.true_eq_false]
      by_cases c : r.length = A.length
      · rw [if_neg (by omega)]
        refine hn _ ⟨_, rfl, fun t ht => ?_⟩
        rcases List.mem_append.mp ht with z | z
        · exact hu t z
        · rw [List.mem_singleton.mp z]; exact c
      · rw [if_pos (by omega)]
        exact hx fun h => c (h.2 r (by rw [hs]; simp))
    · rintro ρ ⟨x1, rfl, hu⟩
      exact hq ⟨c1, hu⟩
  · have hx := hx fun h => c1 h.1
    by_cases c : (A.length : Int) < 1
    · rw [if_pos c]; exact hx
    · rw [if_neg c, if_pos (by omega)]; exact hx
def sem_moved : FSem := fun ds Q X => ∃ (A : List (List Int)) (r : List Int), ds = [LL A, LI r] ∧ (¬ tabOk A → X (xq "BadTable")) ∧ (tabOk A → r.length ≠ A.length → X (xq "BadRow")) ∧
  (tabOk A → r.length = A.length → (∀ a ∈ A, ∀ x ∈ a, ∀ y ∈ r, IntMulOk x y) ∧ Q (LI (mv A r)))
theorem wp_moved {Ω : Str → FSem} (h1 : Ω "look_at_table" = sem_look_at_table) (h2 : Ω "weighed" = sem_weighed) : ∀ ds Q X, ds.length = P_moved.length → sem_moved ds Q X → wpS Ω ci0 ir_moved (holesTo ds N_moved.length) (poOf Q X) := by
  rintro ds Q X _ ⟨A, r, rfl, x1, x2, hq⟩
  show wpS Ω _ ir_moved [LL A, LI r, .hole] (poOf Q X)
  unfold ir_moved
  simp only [wpS, wpE, List.getD_cons_zero, List.getD_cons_succ, List.set_cons_zero, List.set_cons_succ, List.length_map, List.length_cons, List.length_nil, wipeD, cmpI, s_asI, s_asB, s_asL, s_asT, s_asS, s_lvI, s_lvB, s_lvL, s_lvT, s_lvN, s_lvS, s_lvX, s_add, s_sub, s_mul, s_fdiv, s_mod, s_pow, s_lenL, s_lenT, s_abs, s_min, s_max, s_sum, s_any, s_all, s_intI, s_intB, s_list, s_listT, s_tupL, s_tupT, s_one, s_many, s_set, s_set0, s_imI, s_imB, s_imN, s_imT, s_nx, s_rt, s_ex, s_t0, s_t1, s_l0, s_l1, s_asD, s_keyI, s_optS, s_seqL, s_seqT, s_lvD, s_isi7, s_isN1, s_isN2, s_isN3, s_isN4, s_isN5, isNil, asO, s_i1, s_i2, s_i3, s_i4, s_i5, s_i6, eqd_int, eqd_bl, true_and, and_true, decide_eq_true_eq, if_true, ite_true, ite_false, Bool.not_eq_true', decide_eq_false_iff_not, Bool.false_eq_true, Bool.not_false, Bool.not_true, not_true_eq_false, Bool.true_eq_false, h1, h2]
  refine ⟨A, rfl, fun t => ?_, x1⟩
  by_cases c : r.length = A.length
  · obtain ⟨hm, hq⟩ := hq t c
    rw [if_neg (by omega)]
    have := t.1
    refine ⟨by unfold LIM; omega, goLC_of (g := fun r => .lst (r.map D.int)) (xs := A) (f := fun a => .int (dot a r)) (fun a ha R S q => ?_) ?_⟩
    · simp only [wpS, wpE, List.getD_cons_zero, List.getD_cons_succ, List.set_cons_zero, List.set_cons_succ, List.length_map, List.length_cons, List.length_nil, wipeD, cmpI, s_asI, s_asB, s_asL, s_asT, s_asS, s_lvI, s_lvB, s_lvL, s_lvT, s_lvN, s_lvS, s_lvX, s_add, s_sub, s_mul, s_fdiv, s_mod, s_pow, s_lenL, s_lenT, s_abs, s_min, s_max, s_sum, s_any, s_all, s_intI, s_intB, s_list, s_listT, s_tupL, s_tupT, s_one, s_many, s_set, s_set0, s_imI, s_imB, s_imN, s_imT, s_nx, s_rt, s_ex, s_t0, s_t1, s_l0, s_l1, s_asD, s_keyI, s_optS, s_seqL, s_seqT, s_lvD, s_isi7, s_isN1, s_isN2, s_isN3, s_isN4, s_isN5, isNil, asO, s_i1, s_i2, s_i3, s_i4, s_i5, s_i6, eqd_int, eqd_bl, true_and, and_true, decide_eq_true_eq, if_true, ite_true, ite_false, Bool.not_eq_true', decide_eq_false_iff_not, Bool.false_eq_true, Bool.not_false, Bool.not_true, not_true_eq_false, Bool.true_eq_false]
      exact ⟨a, r, rfl, by have := t.2 a ha; unfold LIM; omega, (t.2 a ha).trans c.symm, hm a ha, q⟩
    · have e : A.map (fun a => D.int (dot a r)) = (mv A r).map D.int := by unfold mv; rw [List.map_map]; rfl
      rw [e]
      exact hq
  · rw [if_pos (by omega)]
    exact x2 t c
def sem_columns_of : FSem := fun ds Q _ => ∃ (n : Nat) (A : List (List Int)), ds = [.int n, LL A] ∧ n ≤ 1000 ∧ A.length ≤ 1000 ∧ (∀ r ∈ A, n ≤ r.length) ∧ Q (LL (cols n A))
theorem wp_columns_of {Ω : Str → FSem} : ∀ ds Q X, ds.length = P_columns_of.length → sem_columns_of ds Q X → wpS Ω ci0 ir_columns_of (holesTo ds N_columns_of.length) (poOf Q X) := by
  rintro ds Q X _ ⟨n, A, rfl, h1, h2, h3, hq⟩
  show wpS Ω _ ir_columns_of [.int n, LL A, .hole, .hole] (poOf Q X)
  unfold ir_columns_of
  simp only [wpS, wpE, List.getD_cons_zero, List.getD_cons_succ, List.set_cons_zero, List.set_cons_succ, List.length_map, List.length_cons, List.length_nil, wipeD, cmpI, s_asI, s_asB, s_asL, s_asT, s_asS, s_lvI, s_lvB, s_lvL, s_lvT, s_lvN, s_lvS, s_lvX, s_add, s_sub, s_mul, s_fdiv, s_mod, s_pow, s_lenL, s_lenT, s_abs, s_min, s_max, s_sum, s_any, s_all, s_intI, s_intB, s_list, s_listT, s_tupL, s_tupT, s_one, s_many, s_set, s_set0, s_imI, s_imB, s_imN, s_imT, s_nx, s_rt, s_ex, s_t0, s_t1, s_l0, s_l1, s_asD, s_keyI, s_optS, s_seqL, s_seqT, s_lvD, s_isi7, s_isN1, s_isN2, s_isN3, s_isN4, s_isN5, isNil, asO, s_i1, s_i2, s_i3, s_i4, s_i5, s_i6, eqd_int, eqd_bl, true_and, and_true, decide_eq_true_eq, if_true, ite_true, ite_false, Bool.not_eq_true', decide_eq_false_iff_not, Bool.false_eq_true, Bool.not_false, Bool.not_true, not_true_eq_false, Bool.true_eq_false]
  rw [Int.toNat_natCast]
  refine ⟨by unfold small; omega, by rw [List.length_range]; unfold LIM; omega, ?_⟩
  refine goLC_of (g := fun k : Nat => .int (k : Nat)) (xs := List.range n) (f := fun j => .lst ((col j A).map D.int)) (fun j hj R S q => ?_) ?_
  · have hj : j < n := List.mem_range.mp hj
    simp only [wpS, wpE, List.getD_cons_zero, List.getD_cons_succ, List.set_cons_zero, List.set_cons_succ, List.length_map, List.length_cons, List.length_nil, wipeD, cmpI, s_asI, s_asB, s_asL, s_asT, s_asS, s_lvI, s_lvB, s_lvL, s_lvT, s_lvN, s_lvS, s_lvX, s_add, s_sub, s_mul, s_fdiv, s_mod, s_pow, s_lenL, s_lenT, s_abs, s_min, s_max, s_sum, s_any, s_all, s_intI, s_intB, s_list, s_listT, s_tupL, s_tupT, s_one, s_many, s_set, s_set0, s_imI, s_imB, s_imN, s_imT, s_nx, s_rt, s_ex, s_t0, s_t1, s_l0, s_l1, s_asD, s_keyI, s_optS, s_seqL, s_seqT, s_lvD, s_isi7, s_isN1, s_isN2, s_isN3, s_isN4, s_isN5, isNil, asO, s_i1, s_i2, s_i3, s_i4, s_i5, s_i6, eqd_int, eqd_bl, true_and, and_true, decide_eq_true_eq, if_true, ite_true, ite_false, Bool.not_eq_true', decide_eq_false_iff_not, Bool.false_eq_true, Bool.not_false, Bool.not_true, not_true_eq_false, Bool.true_eq_false]
    refine ⟨by unfold LIM; omega, goLC_of (g := fun r => .lst (r.map D.int)) (xs := A) (f := fun r => .int (r.getD j 0)) (fun r hr R S q => ?_) ?_⟩
    · simp only [wpS, wpE, List.getD_cons_zero, List.getD_cons_succ, List.set_cons_zero, List.set_cons_succ, List.length_map, List.length_cons, List.length_nil, wipeD, cmpI, s_asI, s_asB, s_asL, s_asT, s_asS, s_lvI, s_lvB, s_lvL, s_lvT, s_lvN, s_lvS, s_lvX, s_add, s_sub, s_mul, s_fdiv, s_mod, s_pow, s_lenL, s_lenT, s_abs, s_min, s_max, s_sum, s_any, s_all, s_intI, s_intB, s_list, s_listT, s_tupL, s_tupT, s_one, s_many, s_set, s_set0, s_imI, s_imB, s_imN, s_imT, s_nx, s_rt, s_ex, s_t0, s_t1, s_l0, s_l1, s_asD, s_keyI, s_optS, s_seqL, s_seqT, s_lvD, s_isi7, s_isN1, s_isN2, s_isN3, s_isN4, s_isN5, isNil, asO, s_i1, s_i2, s_i3, s_i4, s_i5, s_i6, eqd_int, eqd_bl, true_and, and_true, decide_eq_true_eq, if_true, ite_true, ite_false, Bool.not_eq_true', decide_eq_false_iff_not, Bool.false_eq_true, Bool.not_false, Bool.not_true, not_true_eq_false, Bool.true_eq_false]
      refine item_LI (by omega) (by have := h3 r hr; omega) ?_
      simp only [wpS, wpE, List.getD_cons_zero, List.getD_cons_succ, List.set_cons_zero, List.set_cons_succ, List.length_map, List.length_cons, List.length_nil, wipeD, cmpI, s_asI, s_asB, s_asL, s_asT, s_asS, s_lvI, s_lvB, s_lvL, s_lvT, s_lvN, s_lvS, s_lvX, s_add, s_sub, s_mul, s_fdiv, s_mod, s_pow, s_lenL, s_lenT, s_abs, s_min, s_max, s_sum, s_any, s_all, s_intI, s_intB, s_list, s_listT, s_tupL, s_tupT, s_one, s_many, s_set, s_set0, s_imI, s_imB, s_imN, s_imT, s_nx, s_rt, s_ex, s_t0, s_t1, s_l0, s_l1, s_asD, s_keyI, s_optS, s_seqL, s_seqT, s_lvD, s_isi7, s_isN1, s_isN2, s_isN3, s_isN4, s_isN5, isNil, asO, s_i1, s_i2, s_i3, s_i4, s_i5, s_i6, eqd_int, eqd_bl, true_and, and_true, decide_eq_true_eq, if_true, ite_true, ite_false, Bool.not_eq_true', decide_eq_false_iff_not, Bool.false_eq_true, Bool.not_false, Bool.not_true, not_true_eq_false, Bool.true_eq_false]
      simpa using q
    · have e : A.map (fun r => D.int (r.getD j 0)) = (col j A).map D.int := by unfold col; rw [List.map_map]; rfl
      rw [e]
      exact q
  · have e : (List.range n).map (fun j => D.lst ((col j A).map D.int)) = (cols n A).map fun r => .lst (r.map D.int) := by unfold cols; rw [List.map_map]; rfl
    rw [e]
    exact hq
def sem_behind : FSem := fun ds Q X => ∃ A B : List (List Int), ds = [LL A, LL B] ∧ (¬ tabOk A → X (xq "BadTable")) ∧ (tabOk A → ¬ tabOk B → X (xq "BadTable")) ∧ (tabOk A → tabOk B → A.length ≠ B.length → X (xq "NotAlike")) ∧
  (tabOk A → tabOk B → A.length = B.length → (∀ a ∈ A, ∀ b ∈ B, ∀ x ∈ a, ∀ y ∈ b, IntMulOk x y) ∧ Q (LL (mulM A B)))
theorem wp_behind {Ω : Str → FSem} (h1 : Ω "look_at_table" = sem_look_at_table) (h2 : Ω "columns_of" = sem_columns_of) (h3 : Ω "weighed" = sem_weighed) : ∀ ds Q X, ds.length = P_behind.length → sem_behind ds Q X → wpS Ω ci0 ir_behind (holesTo ds N_behind.length) (poOf Q X) := by
  rintro ds Q X _ ⟨A, B, rfl, x1, x2, x3, hq⟩
  show wpS Ω _ ir_behind [LL A, LL B, .hole, .hole, .hole] (poOf Q X)
  unfold ir_behind
  simp only [wpS, wpE, List.getD_cons_zero, List.getD_cons_succ, List.set_cons_zero, List.set_cons_succ, List.length_map, List.length_cons, List.length_nil, wipeD, cmpI, s_asI, s_asB, s_asL, s_asT, s_asS, s_lvI, s_lvB, s_lvL, s_lvT, s_lvN, s_lvS, s_lvX, s_add, s_sub, s_mul, s_fdiv, s_mod, s_pow, s_lenL, s_lenT, s_abs, s_min, s_max, s_sum, s_any, s_all, s_intI, s_intB, s_list, s_listT, s_tupL, s_tupT, s_one, s_many, s_set, s_set0, s_imI, s_imB, s_imN, s_imT, s_nx, s_rt, s_ex, s_t0, s_t1, s_l0, s_l1, s_asD, s_keyI, s_optS, s_seqL, s_seqT, s_lvD, s_isi7, s_isN1, s_isN2, s_isN3, s_isN4, s_isN5, isNil, asO, s_i1, s_i2, s_i3, s_i4, s_i5, s_i6, eqd_int, eqd_bl, true_and, and_true, decide_eq_true_eq, if_true, ite_true, ite_false, Bool.not_eq_true', decide_eq_false_iff_not, Bool.false_eq_true, Bool.not_false, Bool.not_true, not_true_eq_false, Bool.true_eq_false, h1, h2, h3]
  refine ⟨A, rfl, fun tA => ⟨B, rfl, fun tB => ?_, x2 tA⟩, x1⟩
  by_cases c : A.length = B.length
  · obtain ⟨hm, hq⟩ := hq tA tB c
    have := tA.1
    have := tB.1
    rw [if_neg (by omega)]
    refine ⟨B.length, B, rfl, by omega, by omega, fun r hr => by rw [tB.2 r hr]; omega, ?_⟩
    simp only [wpS, wpE, List.getD_cons_zero, List.getD_cons_succ, List.set_cons_zero, List.set_cons_succ, List.length_map, List.length_cons, List.length_nil, wipeD, cmpI, s_asI, s_asB, s_asL, s_asT, s_asS, s_lvI, s_lvB, s_lvL, s_lvT, s_lvN, s_lvS, s_lvX, s_add, s_sub, s_mul, s_fdiv, s_mod, s_pow, s_lenL, s_lenT, s_abs, s_min, s_max, s_sum, s_any, s_all, s_intI, s_intB, s_list, s_listT, s_tupL, s_tupT, s_one, s_many, s_set, s_set0, s_imI, s_imB, s_imN, s_imT, s_nx, s_rt, s_ex, s_t0, s_t1, s_l0, s_l1, s_asD, s_keyI, s_optS, s_seqL, s_seqT, s_lvD, s_isi7, s_isN1, s_isN2, s_isN3, s_isN4, s_isN5, isNil, asO, s_i1, s_i2, s_i3, s_i4, s_i5, s_i6, eqd_int, eqd_bl, true_and, and_true, decide_eq_true_eq, if_true, ite_true, ite_false, Bool.not_eq_true', decide_eq_false_iff_not, Bool.false_eq_true, Bool.not_false, Bool.not_true, not_true_eq_false, Bool.true_eq_false]
    refine ⟨by unfold LIM; omega, goLC_of (g := fun r => .lst (r.map D.int)) (xs := A) (f := fun a => .lst (((cols B.length B).map fun c => dot a c).map D.int)) (fun a ha R S q => ?_) ?_⟩
    · simp only [wpS, wpE, List.getD_cons_zero, List.getD_cons_succ, List.set_cons_zero, List.set_cons_succ, List.length_map, List.length_cons, List.length_nil, wipeD, cmpI, s_asI, s_asB, s_asL, s_asT, s_asS, s_lvI, s_lvB, s_lvL, s_lvT, s_lvN, s_lvS, s_lvX, s_add, s_sub, s_mul, s_fdiv, s_mod, s_pow, s_lenL, s_lenT, s_abs, s_min, s_max, s_sum, s_any, s_all, s_intI, s_intB, s_list, s_listT, s_tupL, s_tupT, s_one, s_many, s_set, s_set0, s_imI, s_imB, s_imN, s_imT, s_nx, s_rt, s_ex, s_t0, s_t1, s_l0, s_l1, s_asD, s_keyI, s_optS, s_seqL, s_seqT, s_lvD, s_isi7, s_isN1, s_isN2, s_isN3, s_isN4, s_isN5, isNil, asO, s_i1, s_i2, s_i3, s_i4, s_i5, s_i6, eqd_int, eqd_bl, true_and, and_true, decide_eq_true_eq, if_true, ite_true, ite_false, Bool.not_eq_true', decide_eq_false_iff_not, Bool.false_eq_true, Bool.not_false, Bool.not_true, not_true_eq_false, Bool.true_eq_false]
      have cl : (cols B.length B).length = B.length := by unfold cols; simp
      refine ⟨by unfold LIM; omega, goLC_of (g := fun r => .lst (r.map D.int)) (xs := cols B.length B) (f := fun c => .int (dot a c)) (fun c hc R S q => ?_) ?_⟩
      · obtain ⟨j, hj, rfl⟩ := List.mem_map.mp hc
        have hj := List.mem_range.mp hj
        simp only [wpS, wpE, List.getD_cons_zero, List.getD_cons_succ, List.set_cons_zero, List.set_cons_succ, List.length_map, List.length_cons, List.length_nil, wipeD, cmpI, s_asI, s_asB, s_asL, s_asT, s_asS, s_lvI, s_lvB, s_lvL, s_lvT, s_lvN, s_lvS, s_lvX, s_add, s_sub, s_mul, s_fdiv, s_mod, s_pow, s_lenL, s_lenT, s_abs, s_min, s_max, s_sum, s_any, s_all, s_intI, s_intB, s_list, s_listT, s_tupL, s_tupT, s_one, s_many, s_set, s_set0, s_imI, s_imB, s_imN, s_imT, s_nx, s_rt, s_ex, s_t0, s_t1, s_l0, s_l1, s_asD, s_keyI, s_optS, s_seqL, s_seqT, s_lvD, s_isi7, s_isN1, s_isN2, s_isN3, s_isN4, s_isN5, isNil, asO, s_i1, s_i2, s_i3, s_i4, s_i5, s_i6, eqd_int, eqd_bl, true_and, and_true, decide_eq_true_eq, if_true, ite_true, ite_false, Bool.not_eq_true', decide_eq_false_iff_not, Bool.false_eq_true, Bool.not_false, Bool.not_true, not_true_eq_false, Bool.true_eq_false]
        refine ⟨a, col j B, rfl, by have := tA.2 a ha; unfold LIM; omega, by rw [tA.2 a ha, c]; unfold col; simp, fun x hx y hy => ?_, q⟩
        obtain ⟨b, hb, rfl⟩ := List.mem_map.mp hy
        refine hm a ha b hb x hx _ ?_
        rw [getD_get (by rw [tB.2 b hb]; exact hj)]
        exact List.getElem_mem _
      · rw [List.map_map] at q
        exact q
    · have e : A.map (fun a => D.lst (((cols B.length B).map fun c => dot a c).map D.int)) = (mulM A B).map fun r => .lst (r.map D.int) := by unfold mulM; rw [List.map_map]; rfl
      rw [e]
      exact hq
  · rw [if_pos (by omega)]
    exact x3 tA tB c
theorem item_LL {A : List (List Int)} {k : Int} {K : D → Prop} (h0 : 0 ≤ k) (h1 : k < A.length) (h : K (.lst ((A.getD k.toNat []).map D.int))) : itemD (LL A) k K := by
  have hk : k.toNat < A.length := by omega
  have e : atI (A.map fun r => D.lst (r.map D.int)) k = some (.lst ((A.getD k.toNat []).map D.int)) := by
    unfold atI
    have : ixN (A.map fun r => D.lst (r.map D.int)).length k = some k.toNat := by
      unfold ixN
      rw [if_pos h0, if_pos (by rw [List.length_map]; exact h1)]
    rw [this]
    show (A.map fun r => D.lst (r.map D.int))[k.toNat]? = _
    rw [List.getElem?_map, List.getElem?_eq_getElem hk, List.getD_eq_getElem?_getD, List.getElem?_eq_getElem hk]
    rfl
  show (match atI (A.map fun r => D.lst (r.map D.int)) k with | some d => d.live ∧ K d | none => False)
  rw [e]
  exact ⟨trivial, h⟩
theorem getL_mem {A : List (List Int)} {k : Nat} (h : k < A.length) : A.getD k [] ∈ A := by
  rw [List.getD_eq_getElem?_getD, List.getElem?_eq_getElem h]
  exact List.getElem_mem h
theorem getL_eq {A : List (List Int)} {k : Nat} (h : k < A.length) : A.getD k [] = A[k] := by
  rw [List.getD_eq_getElem?_getD, List.getElem?_eq_getElem h]; rfl
theorem enm_L {α : Type} (f : α → D) (xs : List α) : (xs.map f).mapIdx (fun k d => D.tup [.int (k : Nat), d]) = (xs.mapIdx fun k x => (k, x)).map fun p : Nat × α => .tup [.int (p.1 : Nat), f p.2] := by
  refine List.ext_getElem (by simp) fun i h1 h2 => ?_
  simp
theorem idx_mem {α : Type} {xs : List α} {p : Nat × α} (h : p ∈ xs.mapIdx fun k x => (k, x)) : xs[p.1]? = some p.2 := by
  obtain ⟨i, hi, e⟩ := List.getElem_of_mem h
  rw [List.getElem_mapIdx] at e
  rw [← e]
  exact List.getElem?_eq_getElem (by simpa using hi)
theorem sum_idx (f : Nat → Int) (a b : List Int) (hb : ∀ k (h : k < b.length), b[k] = f k) (hl : a.length = b.length) : ((a.mapIdx fun k x => (k, x)).map fun p : Nat × Int => p.2 * f p.1) = List.zipWith (· * ·) a b := by
  refine List.ext_getElem (by simp [hl]) fun i h1 h2 => ?_
  have hi : i < b.length := by simp at h2; omega
  simp [hb i hi]
def sem__law_through : FSem := fun ds Q X => ∃ A B : List (List Int), ds = [LL A, LL B] ∧ 1 ≤ B.length ∧ B.length ≤ 1000 ∧ A.length ≤ 1000 ∧ (∀ a ∈ A, a.length = B.length) ∧ (∀ b ∈ B, b.length = B.length) ∧
  (∀ a ∈ A, ∀ b ∈ B, ∀ x ∈ a, ∀ y ∈ b, IntMulOk x y) ∧ Q (LL (mulM A B))
theorem mulM_snoc (us : List (List Int)) (a : List Int) (B : List (List Int)) : mulM (us ++ [a]) B = mulM us B ++ [(cols B.length B).map fun c => dot a c] := by unfold mulM; simp
theorem LL_snoc (A : List (List Int)) (r : List Int) : A.map (fun r => D.lst (r.map D.int)) ++ [.lst (r.map D.int)] = (A ++ [r]).map fun r => D.lst (r.map D.int) := by simp
theorem wp__law_through {Ω : Str → FSem} : ∀ ds Q X, ds.length = P__law_through.length → sem__law_through ds Q X → wpS Ω ci0 ir__law_through (holesTo ds N__law_through.length) (poOf Q X) := by
  rintro ds Q X _ ⟨A, B, rfl, b1, b2, a2, hA, hB, hm, hq⟩
  show wpS Ω _ ir__law_through [LL A, LL B, .hole, .hole, .hole, .hole, .hole, .hole] (poOf Q X)
  unfold ir__law_through
  simp only [wpS, wpE, List.getD_cons_zero, List.getD_cons_succ, List.set_cons_zero, List.set_cons_succ, List.length_map, List.length_cons, List.length_nil, wipeD, cmpI, s_asI, s_asB, s_asL, s_asT, s_asS, s_lvI, s_lvB, s_lvL, s_lvT, s_lvN, s_lvS, s_lvX, s_add, s_sub, s_mul, s_fdiv, s_mod, s_pow, s_lenL, s_lenT, s_abs, s_min, s_max, s_sum, s_any, s_all, s_intI, s_intB, s_list, s_listT, s_tupL, s_tupT, s_one, s_many, s_set, s_set0, s_imI, s_imB, s_imN, s_imT, s_nx, s_rt, s_ex, s_t0, s_t1, s_l0, s_l1, s_asD, s_keyI, s_optS, s_seqL, s_seqT, s_lvD, s_isi7, s_isN1, s_isN2, s_isN3, s_isN4, s_isN5, isNil, asO, s_i1, s_i2, s_i3, s_i4, s_i5, s_i6, eqd_int, eqd_bl, true_and, and_true, decide_eq_true_eq, if_true, ite_true, ite_false, Bool.not_eq_true', decide_eq_false_iff_not, Bool.false_eq_true, Bool.not_false, Bool.not_true, not_true_eq_false, Bool.true_eq_false]
  refine goFor_of (g := fun r => .lst (r.map D.int)) (xs := A) (fun us ρ => ∃ x3 x4 x5 : D, ρ = [LL A, LL B, LL (mulM us B), x3, x4, x5, .hole, .hole]) ⟨_, _, _, rfl⟩ ?_ ?_
  · rintro us a zs ρ Pn hs ⟨x3, x4, x5, rfl⟩ hn
    have ha : a ∈ A := by rw [hs]; simp
    have ul : us.length ≤ A.length := by rw [hs]; simp
    simp only [wpS, wpE, List.getD_cons_zero, List.getD_cons_succ, List.set_cons_zero, List.set_cons_succ, List.length_map, List.length_cons, List.length_nil, wipeD, cmpI, s_asI, s_asB, s_asL, s_asT, s_asS, s_lvI, s_lvB, s_lvL, s_lvT, s_lvN, s_lvS, s_lvX, s_add, s_sub, s_mul, s_fdiv, s_mod, s_pow, s_lenL, s_lenT, s_abs, s_min, s_max, s_sum, s_any, s_all, s_intI, s_intB, s_list, s_listT, s_tupL, s_tupT, s_one, s_many, s_set, s_set0, s_imI, s_imB, s_imN, s_imT, s_nx, s_rt, s_ex, s_t0, s_t1, s_l0, s_l1, s_asD, s_keyI, s_optS, s_seqL, s_seqT, s_lvD, s_isi7, s_isN1, s_isN2, s_isN3, s_isN4, s_isN5, isNil, asO, s_i1, s_i2, s_i3, s_i4, s_i5, s_i6, eqd_int, eqd_bl, true_and, and_true, decide_eq_true_eq, if_true, ite_true, ite_false, Bool.not_eq_true', decide_eq_false_iff_not, Bool.false_eq_true, Bool.not_false, Bool.not_true, not_true_eq_false, Bool.true_eq_false]
    refine item_LL (by omega) (by omega) ?_
    have e0 : (B.getD (Int.toNat 0) []).length = B.length := hB _ (getL_mem (by omega))
    simp only [wpS, wpE, List.getD_cons_zero, List.getD_cons_succ, List.set_cons_zero, List.set_cons_succ, List.length_map, List.length_cons, List.length_nil, wipeD, cmpI, s_asI, s_asB, s_asL, s_asT, s_asS, s_lvI, s_lvB, s_lvL, s_lvT, s_lvN, s_lvS, s_lvX, s_add, s_sub, s_mul, s_fdiv, s_mod, s_pow, s_lenL, s_lenT, s_abs, s_min, s_max, s_sum, s_any, s_all, s_intI, s_intB, s_list, s_listT, s_tupL, s_tupT, s_one, s_many, s_set, s_set0, s_imI, s_imB, s_imN, s_imT, s_nx, s_rt, s_ex, s_t0, s_t1, s_l0, s_l1, s_asD, s_keyI, s_optS, s_seqL, s_seqT, s_lvD, s_isi7, s_isN1, s_isN2, s_isN3, s_isN4, s_isN5, isNil, asO, s_i1, s_i2, s_i3, s_i4, s_i5, s_i6, eqd_int, eqd_bl, true_and, and_true, decide_eq_true_eq, if_true, ite_true, ite_false, Bool.not_eq_true', decide_eq_false_iff_not, Bool.false_eq_true, Bool.not_false, Bool.not_true, not_true_eq_false, Bool.true_eq_false]
    rw [e0, Int.toNat_natCast]
    refine ⟨by unfold small; omega, ?_⟩
    refine goFor_rng (fun k ρ => ∃ x5 : D, ρ = [LL A, LL B, LL (mulM us B), .lst (a.map D.int), .lst ((((cols B.length B).map fun c => dot a c).take k).map D.int), x5, .hole, .hole]) ⟨_, rfl⟩ ?_ ?_
    · rintro k ρ Pn2 hk ⟨x5, rfl⟩ hn2
      simp only [wpS, wpE, List.getD_cons_zero, List.getD_cons_succ, List.set_cons_zero, List.set_cons_succ, List.length_map, List.length_cons, List.length_nil, wipeD, cmpI, s_asI, s_asB, s_asL, s_asT, s_asS, s_lvI, s_lvB, s_lvL, s_lvT, s_lvN, s_lvS, s_lvX, s_add, s_sub, s_mul, s_fdiv, s_mod, s_pow, s_lenL, s_lenT, s_abs, s_min, s_max, s_sum, s_any, s_all, s_intI, s_intB, s_list, s_listT, s_tupL, s_tupT, s_one, s_many, s_set, s_set0, s_imI, s_imB, s_imN, s_imT, s_nx, s_rt, s_ex, s_t0, s_t1, s_l0, s_l1, s_asD, s_keyI, s_optS, s_seqL, s_seqT, s_lvD, s_isi7, s_isN1, s_isN2, s_isN3, s_isN4, s_isN5, isNil, asO, s_i1, s_i2, s_i3, s_i4, s_i5, s_i6, eqd_int, eqd_bl, true_and, and_true, decide_eq_true_eq, if_true, ite_true, ite_false, Bool.not_eq_true', decide_eq_false_iff_not, Bool.false_eq_true, Bool.not_false, Bool.not_true, not_true_eq_false, Bool.true_eq_false]
      rw [enm_L]
      refine ⟨by simp; have := hA a ha; unfold LIM; omega, goLC_of (g := fun p : Nat × Int => .tup [.int (p.1 : Nat), .int p.2]) (xs := a.mapIdx fun k x => (k, x)) (f := fun p => .int (p.2 * (B.getD p.1 []).getD k 0)) (fun p hp R S q => ?_) ?_⟩
      · have hp := idx_mem hp
        obtain ⟨pl, pe⟩ := List.getElem?_eq_some_iff.mp hp
        have pl' : p.1 < B.length := by rw [← hA a ha]; exact pl
        have bm := getL_mem pl'
        simp only [wpS, wpE, List.getD_cons_zero, List.getD_cons_succ, List.set_cons_zero, List.set_cons_succ, List.length_map, List.length_cons, List.length_nil, wipeD, cmpI, s_asI, s_asB, s_asL, s_asT, s_asS, s_lvI, s_lvB, s_lvL, s_lvT, s_lvN, s_lvS, s_lvX, s_add, s_sub, s_mul, s_fdiv, s_mod, s_pow, s_lenL, s_lenT, s_abs, s_min, s_max, s_sum, s_any, s_all, s_intI, s_intB, s_list, s_listT, s_tupL, s_tupT, s_one, s_many, s_set, s_set0, s_imI, s_imB, s_imN, s_imT, s_nx, s_rt, s_ex, s_t0, s_t1, s_l0, s_l1, s_asD, s_keyI, s_optS, s_seqL, s_seqT, s_lvD, s_isi7, s_isN1, s_isN2, s_isN3, s_isN4, s_isN5, isNil, asO, s_i1, s_i2, s_i3, s_i4, s_i5, s_i6, eqd_int, eqd_bl, true_and, and_true, decide_eq_true_eq, if_true, ite_true, ite_false, Bool.not_eq_true', decide_eq_false_iff_not, Bool.false_eq_true, Bool.not_false, Bool.not_true, not_true_eq_false, Bool.true_eq_false]
        refine item_LL (by omega) (by omega) ?_
        refine item_LI (by omega) (by rw [hB _ (by simpa using bm)]; omega) ?_
        simp only [wpS, wpE, List.getD_cons_zero, List.getD_cons_succ, List.set_cons_zero, List.set_cons_succ, List.length_map, List.length_cons, List.length_nil, wipeD, cmpI, s_asI, s_asB, s_asL, s_asT, s_asS, s_lvI, s_lvB, s_lvL, s_lvT, s_lvN, s_lvS, s_lvX, s_add, s_sub, s_mul, s_fdiv, s_mod, s_pow, s_lenL, s_lenT, s_abs, s_min, s_max, s_sum, s_any, s_all, s_intI, s_intB, s_list, s_listT, s_tupL, s_tupT, s_one, s_many, s_set, s_set0, s_imI, s_imB, s_imN, s_imT, s_nx, s_rt, s_ex, s_t0, s_t1, s_l0, s_l1, s_asD, s_keyI, s_optS, s_seqL, s_seqT, s_lvD, s_isi7, s_isN1, s_isN2, s_isN3, s_isN4, s_isN5, isNil, asO, s_i1, s_i2, s_i3, s_i4, s_i5, s_i6, eqd_int, eqd_bl, true_and, and_true, decide_eq_true_eq, if_true, ite_true, ite_false, Bool.not_eq_true', decide_eq_false_iff_not, Bool.false_eq_true, Bool.not_false, Bool.not_true, not_true_eq_false, Bool.true_eq_false]
        rw [Int.toNat_natCast, Int.toNat_natCast]
        refine ⟨hm a ha _ bm _ (by rw [← pe]; exact List.getElem_mem _) _ ?_, q⟩
        rw [getD_get (by rw [hB _ bm]; exact hk)]
        exact List.getElem_mem _
      · have e : (a.mapIdx fun k x => (k, x)).map (fun p : Nat × Int => D.int (p.2 * (B.getD p.1 []).getD k 0)) = ((a.mapIdx fun k x => (k, x)).map fun p : Nat × Int => p.2 * (B.getD p.1 []).getD k 0).map D.int := by rw [List.map_map]; rfl
        have e2 := sum_idx (fun j => (B.getD j []).getD k 0) a (col k B) (fun j h => by
          have hj : j < B.length := by unfold col at h; simpa using h
          simp only [col, List.getElem_map]
          rw [getL_eq hj]) (by unfold col; rw [List.length_map]; exact hA a ha)
        rw [e, e2]
        simp only [wpS, wpE, List.getD_cons_zero, List.getD_cons_succ, List.set_cons_zero, List.set_cons_succ, List.length_map, List.length_cons, List.length_nil, wipeD, cmpI, s_asI, s_asB, s_asL, s_asT, s_asS, s_lvI, s_lvB, s_lvL, s_lvT, s_lvN, s_lvS, s_lvX, s_add, s_sub, s_mul, s_fdiv, s_mod, s_pow, s_lenL, s_lenT, s_abs, s_min, s_max, s_sum, s_any, s_all, s_intI, s_intB, s_list, s_listT, s_tupL, s_tupT, s_one, s_many, s_set, s_set0, s_imI, s_imB, s_imN, s_imT, s_nx, s_rt, s_ex, s_t0, s_t1, s_l0, s_l1, s_asD, s_keyI, s_optS, s_seqL, s_seqT, s_lvD, s_isi7, s_isN1, s_isN2, s_isN3, s_isN4, s_isN5, isNil, asO, s_i1, s_i2, s_i3, s_i4, s_i5, s_i6, eqd_int, eqd_bl, true_and, and_true, decide_eq_true_eq, if_true, ite_true, ite_false, Bool.not_eq_true', decide_eq_false_iff_not, Bool.false_eq_true, Bool.not_false, Bool.not_true, not_true_eq_false, Bool.true_eq_false]
        have cl : ((cols B.length B).map fun c => dot a c).length = B.length := by unfold cols; simp
        refine ⟨by rw [List.length_take]; unfold LIM; omega, hn2 _ ⟨.int (k : Nat), ?_⟩⟩
        have et : ((cols B.length B).map fun c => dot a c).take (k + 1) = ((cols B.length B).map fun c => dot a c).take k ++ [dot a (col k B)] := by
          rw [List.take_add_one, List.getElem?_eq_getElem (by omega)]
          simp [cols]
        rw [et]
        simp [dot]
    · rintro ρ ⟨x5, rfl⟩
      have cl : ((cols B.length B).map fun c => dot a c).length = B.length := by unfold cols; simp
      rw [List.take_of_length_le (by omega)]
      simp only [wpS, wpE, List.getD_cons_zero, List.getD_cons_succ, List.set_cons_zero, List.set_cons_succ, List.length_map, List.length_cons, List.length_nil, wipeD, cmpI, s_asI, s_asB, s_asL, s_asT, s_asS, s_lvI, s_lvB, s_lvL, s_lvT, s_lvN, s_lvS, s_lvX, s_add, s_sub, s_mul, s_fdiv, s_mod, s_pow, s_lenL, s_lenT, s_abs, s_min, s_max, s_sum, s_any, s_all, s_intI, s_intB, s_list, s_listT, s_tupL, s_tupT, s_one, s_many, s_set, s_set0, s_imI, s_imB, s_imN, s_imT, s_nx, s_rt, s_ex, s_t0, s_t1, s_l0, s_l1, s_asD, s_keyI, s_optS, s_seqL, s_seqT, s_lvD, s_isi7, s_isN1, s_isN2, s_isN3, s_isN4, s_isN5, isNil, asO, s_i1, s_i2, s_i3, s_i4, s_i5, s_i6, eqd_int, eqd_bl, true_and, and_true, decide_eq_true_eq, if_true, ite_true, ite_false, Bool.not_eq_true', decide_eq_false_iff_not, Bool.false_eq_true, Bool.not_false, Bool.not_true, not_true_eq_false, Bool.true_eq_false]
      refine ⟨by unfold mulM; rw [List.length_map]; unfold LIM; omega, hn _ ⟨.lst (a.map D.int), .hole, x5, ?_⟩⟩
      rw [LL_snoc, mulM_snoc]
  · rintro ρ ⟨x3, x4, x5, rfl⟩
    simp only [wpS, wpE, List.getD_cons_zero, List.getD_cons_succ, List.set_cons_zero, List.set_cons_succ, List.length_map, List.length_cons, List.length_nil, wipeD, cmpI, s_asI, s_asB, s_asL, s_asT, s_asS, s_lvI, s_lvB, s_lvL, s_lvT, s_lvN, s_lvS, s_lvX, s_add, s_sub, s_mul, s_fdiv, s_mod, s_pow, s_lenL, s_lenT, s_abs, s_min, s_max, s_sum, s_any, s_all, s_intI, s_intB, s_list, s_listT, s_tupL, s_tupT, s_one, s_many, s_set, s_set0, s_imI, s_imB, s_imN, s_imT, s_nx, s_rt, s_ex, s_t0, s_t1, s_l0, s_l1, s_asD, s_keyI, s_optS, s_seqL, s_seqT, s_lvD, s_isi7, s_isN1, s_isN2, s_isN3, s_isN4, s_isN5, isNil, asO, s_i1, s_i2, s_i3, s_i4, s_i5, s_i6, eqd_int, eqd_bl, true_and, and_true, decide_eq_true_eq, if_true, ite_true, ite_false, Bool.not_eq_true', decide_eq_false_iff_not, Bool.false_eq_true, Bool.not_false, Bool.not_true, not_true_eq_false, Bool.true_eq_false]
    exact hq
end FM.Lib

set_option Elab.async false
set_option linter.all false
set_option maxRecDepth 100000
namespace FM.Lib
open PySem L2
theorem s_isL : isiD .list (.lst xs) = some true := rfl
theorem all_true {α : Type} (l : List α) : ((l.map fun _ => true).all id) = true := by simp
def sem__law_same : FSem := fun ds Q _ => ∃ r : List Int, ds = [LI r, LI r] ∧ r.length ≤ LIM ∧ Q (.bl true)
theorem wp__law_same {Ω : Str → FSem} (h : Ω "_law_whole" = sem__law_whole) : ∀ ds Q X, ds.length = P__law_same.length → sem__law_same ds Q X → wpS Ω ci0 ir__law_same (holesTo ds N__law_same.length) (poOf Q X) := by
  rintro ds Q X _ ⟨r, rfl, hl, hq⟩
  show wpS Ω _ ir__law_same [LI r, LI r, .hole] (poOf Q X)
  unfold ir__law_same
  simp only [wpS, wpE, List.getD_cons_zero, List.getD_cons_succ, List.set_cons_zero, List.set_cons_succ, List.length_map, List.length_cons, List.length_nil, wipeD, cmpI, s_asI, s_asB, s_asL, s_asT, s_asS, s_lvI, s_lvB, s_lvL, s_lvT, s_lvN, s_lvS, s_lvX, s_add, s_sub, s_mul, s_fdiv, s_mod, s_pow, s_lenL, s_lenT, s_abs, s_min, s_max, s_sum, s_any, s_all, s_intI, s_intB, s_list, s_listT, s_tupL, s_tupT, s_one, s_many, s_set, s_set0, s_imI, s_imB, s_imN, s_imT, s_nx, s_rt, s_ex, s_t0, s_t1, s_l0, s_l1, s_asD, s_keyI, s_optS, s_seqL, s_seqT, s_lvD, s_isi7, s_isN1, s_isN2, s_isN3, s_isN4, s_isN5, isNil, asO, s_i1, s_i2, s_i3, s_i4, s_i5, s_i6, eqd_int, eqd_bl, true_and, and_true, decide_eq_true_eq, if_true, ite_true, ite_false, Bool.not_eq_true', decide_eq_false_iff_not, Bool.false_eq_true, Bool.not_false, Bool.not_true, not_true_eq_false, Bool.true_eq_false, h, s_isL]
  refine ⟨hl, goLC_of (g := D.int) (xs := r) (f := fun _ => .bl true) (fun x hx R S q => ?_) ?_⟩
  · simp only [wpS, wpE, List.getD_cons_zero, List.getD_cons_succ, List.set_cons_zero, List.set_cons_succ, List.length_map, List.length_cons, List.length_nil, wipeD, cmpI, s_asI, s_asB, s_asL, s_asT, s_asS, s_lvI, s_lvB, s_lvL, s_lvT, s_lvN, s_lvS, s_lvX, s_add, s_sub, s_mul, s_fdiv, s_mod, s_pow, s_lenL, s_lenT, s_abs, s_min, s_max, s_sum, s_any, s_all, s_intI, s_intB, s_list, s_listT, s_tupL, s_tupT, s_one, s_many, s_set, s_set0, s_imI, s_imB, s_imN, s_imT, s_nx, s_rt, s_ex, s_t0, s_t1, s_l0, s_l1, s_asD, s_keyI, s_optS, s_seqL, s_seqT, s_lvD, s_isi7, s_isN1, s_isN2, s_isN3, s_isN4, s_isN5, isNil, asO, s_i1, s_i2, s_i3, s_i4, s_i5, s_i6, eqd_int, eqd_bl, true_and, and_true, decide_eq_true_eq, if_true, ite_true, ite_false, Bool.not_eq_true', decide_eq_false_iff_not, Bool.false_eq_true, Bool.not_false, Bool.not_true, not_true_eq_false, Bool.true_eq_false]
    exact ⟨x, rfl, q⟩
  · have e : r.map (fun _ => D.bl true) = (r.map fun _ => true).map D.bl := by rw [List.map_map]; rfl
    rw [e]
    simp only [wpS, wpE, List.getD_cons_zero, List.getD_cons_succ, List.set_cons_zero, List.set_cons_succ, List.length_map, List.length_cons, List.length_nil, wipeD, cmpI, s_asI, s_asB, s_asL, s_asT, s_asS, s_lvI, s_lvB, s_lvL, s_lvT, s_lvN, s_lvS, s_lvX, s_add, s_sub, s_mul, s_fdiv, s_mod, s_pow, s_lenL, s_lenT, s_abs, s_min, s_max, s_sum, s_any, s_all, s_intI, s_intB, s_list, s_listT, s_tupL, s_tupT, s_one, s_many, s_set, s_set0, s_imI, s_imB, s_imN, s_imT, s_nx, s_rt, s_ex, s_t0, s_t1, s_l0, s_l1, s_asD, s_keyI, s_optS, s_seqL, s_seqT, s_lvD, s_isi7, s_isN1, s_isN2, s_isN3, s_isN4, s_isN5, isNil, asO, s_i1, s_i2, s_i3, s_i4, s_i5, s_i6, eqd_int, eqd_bl, true_and, and_true, decide_eq_true_eq, if_true, ite_true, ite_false, Bool.not_eq_true', decide_eq_false_iff_not, Bool.false_eq_true, Bool.not_false, Bool.not_true, not_true_eq_false, Bool.true_eq_false]
    rw [all_true]
    simp only [wpS, wpE, List.getD_cons_zero, List.getD_cons_succ, List.set_cons_zero, List.set_cons_succ, List.length_map, List.length_cons, List.length_nil, wipeD, cmpI, s_asI, s_asB, s_asL, s_asT, s_asS, s_lvI, s_lvB, s_lvL, s_lvT, s_lvN, s_lvS, s_lvX, s_add, s_sub, s_mul, s_fdiv, s_mod, s_pow, s_lenL, s_lenT, s_abs, s_min, s_max, s_sum, s_any, s_all, s_intI, s_intB, s_list, s_listT, s_tupL, s_tupT, s_one, s_many, s_set, s_set0, s_imI, s_imB, s_imN, s_imT, s_nx, s_rt, s_ex, s_t0, s_t1, s_l0, s_l1, s_asD, s_keyI, s_optS, s_seqL, s_seqT, s_lvD, s_isi7, s_isN1, s_isN2, s_isN3, s_isN4, s_isN5, isNil, asO, s_i1, s_i2, s_i3, s_i4, s_i5, s_i6, eqd_int, eqd_bl, true_and, and_true, decide_eq_true_eq, if_true, ite_true, ite_false, Bool.not_eq_true', decide_eq_false_iff_not, Bool.false_eq_true, Bool.not_false, Bool.not_true, not_true_eq_false, Bool.true_eq_false]
    refine eqd_LI.mpr ?_
    rw [decide_eq_true rfl]
    exact hq
theorem zip_self2 {α : Type} (f : α → D) : ∀ s : List α, List.zipWith (fun p q => D.tup [p, q]) (s.map f) (s.map f) = s.map fun t => .tup [f t, f t]
  | [] => rfl
  | x :: s => by rw [List.map_cons, List.zipWith_cons_cons, zip_self2 f s]; rfl
def sem__law_same_rows : FSem := fun ds Q _ => ∃ A : List (List Int), ds = [LL A, LL A] ∧ A.length ≤ LIM ∧ (∀ r ∈ A, r.length ≤ LIM) ∧ Q (.bl true)
theorem wp__law_same_rows {Ω : Str → FSem} (h : Ω "_law_same" = sem__law_same) : ∀ ds Q X, ds.length = P__law_same_rows.length → sem__law_same_rows ds Q X → wpS Ω ci0 ir__law_same_rows (holesTo ds N__law_same_rows.length) (poOf Q X) := by
  rintro ds Q X _ ⟨A, rfl, hl, hr, hq⟩
  show wpS Ω _ ir__law_same_rows [LL A, LL A, .hole, .hole] (poOf Q X)
  unfold ir__law_same_rows
  simp only [wpS, wpE, List.getD_cons_zero, List.getD_cons_succ, List.set_cons_zero, List.set_cons_succ, List.length_map, List.length_cons, List.length_nil, wipeD, cmpI, s_asI, s_asB, s_asL, s_asT, s_asS, s_lvI, s_lvB, s_lvL, s_lvT, s_lvN, s_lvS, s_lvX, s_add, s_sub, s_mul, s_fdiv, s_mod, s_pow, s_lenL, s_lenT, s_abs, s_min, s_max, s_sum, s_any, s_all, s_intI, s_intB, s_list, s_listT, s_tupL, s_tupT, s_one, s_many, s_set, s_set0, s_imI, s_imB, s_imN, s_imT, s_nx, s_rt, s_ex, s_t0, s_t1, s_l0, s_l1, s_asD, s_keyI, s_optS, s_seqL, s_seqT, s_lvD, s_isi7, s_isN1, s_isN2, s_isN3, s_isN4, s_isN5, isNil, asO, s_i1, s_i2, s_i3, s_i4, s_i5, s_i6, eqd_int, eqd_bl, true_and, and_true, decide_eq_true_eq, if_true, ite_true, ite_false, Bool.not_eq_true', decide_eq_false_iff_not, Bool.false_eq_true, Bool.not_false, Bool.not_true, not_true_eq_false, Bool.true_eq_false, h, s_isL]
  rw [zip_self2]
  refine ⟨by rw [List.length_map]; exact hl, goLC_of (g := fun r => .tup [.lst (r.map D.int), .lst (r.map D.int)]) (xs := A) (f := fun _ => .bl true) (fun r hx R S q => ?_) ?_⟩
  · simp only [wpS, wpE, List.getD_cons_zero, List.getD_cons_succ, List.set_cons_zero, List.set_cons_succ, List.length_map, List.length_cons, List.length_nil, wipeD, cmpI, s_asI, s_asB, s_asL, s_asT, s_asS, s_lvI, s_lvB, s_lvL, s_lvT, s_lvN, s_lvS, s_lvX, s_add, s_sub, s_mul, s_fdiv, s_mod, s_pow, s_lenL, s_lenT, s_abs, s_min, s_max, s_sum, s_any, s_all, s_intI, s_intB, s_list, s_listT, s_tupL, s_tupT, s_one, s_many, s_set, s_set0, s_imI, s_imB, s_imN, s_imT, s_nx, s_rt, s_ex, s_t0, s_t1, s_l0, s_l1, s_asD, s_keyI, s_optS, s_seqL, s_seqT, s_lvD, s_isi7, s_isN1, s_isN2, s_isN3, s_isN4, s_isN5, isNil, asO, s_i1, s_i2, s_i3, s_i4, s_i5, s_i6, eqd_int, eqd_bl, true_and, and_true, decide_eq_true_eq, if_true, ite_true, ite_false, Bool.not_eq_true', decide_eq_false_iff_not, Bool.false_eq_true, Bool.not_false, Bool.not_true, not_true_eq_false, Bool.true_eq_false]
    exact ⟨r, rfl, hr r hx, q⟩
  · have e : A.map (fun _ => D.bl true) = (A.map fun _ => true).map D.bl := by rw [List.map_map]; rfl
    rw [e]
    simp only [wpS, wpE, List.getD_cons_zero, List.getD_cons_succ, List.set_cons_zero, List.set_cons_succ, List.length_map, List.length_cons, List.length_nil, wipeD, cmpI, s_asI, s_asB, s_asL, s_asT, s_asS, s_lvI, s_lvB, s_lvL, s_lvT, s_lvN, s_lvS, s_lvX, s_add, s_sub, s_mul, s_fdiv, s_mod, s_pow, s_lenL, s_lenT, s_abs, s_min, s_max, s_sum, s_any, s_all, s_intI, s_intB, s_list, s_listT, s_tupL, s_tupT, s_one, s_many, s_set, s_set0, s_imI, s_imB, s_imN, s_imT, s_nx, s_rt, s_ex, s_t0, s_t1, s_l0, s_l1, s_asD, s_keyI, s_optS, s_seqL, s_seqT, s_lvD, s_isi7, s_isN1, s_isN2, s_isN3, s_isN4, s_isN5, isNil, asO, s_i1, s_i2, s_i3, s_i4, s_i5, s_i6, eqd_int, eqd_bl, true_and, and_true, decide_eq_true_eq, if_true, ite_true, ite_false, Bool.not_eq_true', decide_eq_false_iff_not, Bool.false_eq_true, Bool.not_false, Bool.not_true, not_true_eq_false, Bool.true_eq_false]
    rw [all_true]
    exact hq
/-! ### drawn tables -/
def SqM (m : Nat) (A : List (List Int)) : Prop := A.length = m ∧ ∀ r ∈ A, r.length = m
theorem SqM.tab {m : Nat} {A : List (List Int)} (h : SqM m A) (h1 : 1 ≤ m) (h5 : m ≤ 5) : tabOk A := ⟨by rw [h.1]; exact ⟨h1, h5⟩, fun r hr => by rw [h.2 r hr, h.1]⟩
def sem__law_table : FSem := fun ds Q _ => ∃ (ns : List Int) (s m : Nat) (cell : Int), ds = [LI ns, .int s, .int m, .int cell] ∧ s ≤ 1000 ∧ 1 ≤ m ∧ m ≤ 5 ∧ ∀ A, SqM m A → BdM 136 A → Q (LL A)
theorem cutG_mid {α : Type} {xs : List α} {j m : Nat} (h : j + m ≤ xs.length) : cutG xs (some (j : Int)) (some ((j : Int) + m)) = (xs.drop j).take m := by
  unfold cutG
  have e1 : HT.sIx xs.length 0 (some (j : Int)) = j := by rw [HT.sIx_nat]; omega
  have e2 : HT.sIx xs.length xs.length (some ((j : Int) + m)) = j + m := by
    have := HT.sIx_nat xs.length xs.length (j + m)
    rw [show ((j : Int) + m) = ((j + m : Nat) : Int) by simp, this]; omega
  rw [e1, e2]
  congr 1
  omega
theorem fm2 (x : Int) : x.fmod 2 = 0 ∨ x.fmod 2 = 1 := by
  have a := fm_nn x (show (0 : Int) < 2 by decide)
  have b := Int.fmod_lt_of_pos x (show (0 : Int) < 2 by decide)
  omega
theorem wp_tab_r6 {Ω : Str → FSem} {Q X : D → Prop} {x0 x1 x2 x3 x4 x5 x6 x7 x9 x10 : D} {A : List (List Int)} (hq : Q (LL A)) : wpS Ω ci0 ir__law_table_r6 [x0, x1, x2, x3, x4, x5, x6, x7, LL A, x9, x10] (poOf Q X) := by
  unfold ir__law_table_r6
  simp only [wpS, wpE, List.getD_cons_zero, List.getD_cons_succ, List.set_cons_zero, List.set_cons_succ, List.length_map, List.length_cons, List.length_nil, wipeD, cmpI, s_asI, s_asB, s_asL, s_asT, s_asS, s_lvI, s_lvB, s_lvL, s_lvT, s_lvN, s_lvS, s_lvX, s_add, s_sub, s_mul, s_fdiv, s_mod, s_pow, s_lenL, s_lenT, s_abs, s_min, s_max, s_sum, s_any, s_all, s_intI, s_intB, s_list, s_listT, s_tupL, s_tupT, s_one, s_many, s_set, s_set0, s_imI, s_imB, s_imN, s_imT, s_nx, s_rt, s_ex, s_t0, s_t1, s_l0, s_l1, s_asD, s_keyI, s_optS, s_seqL, s_seqT, s_lvD, s_isi7, s_isN1, s_isN2, s_isN3, s_isN4, s_isN5, isNil, asO, s_i1, s_i2, s_i3, s_i4, s_i5, s_i6, eqd_int, eqd_bl, true_and, and_true, decide_eq_true_eq, if_true, ite_true, ite_false, Bool.not_eq_true', decide_eq_false_iff_not, Bool.false_eq_true, Bool.not_false, Bool.not_true, not_true_eq_false, Bool.true_eq_false]
  exact hq
theorem bd_mono {k l : Nat} {r : List Int} (h : Bd k r) (hk : k ≤ l) : Bd l r := fun x hx => Nat.lt_of_lt_of_le (h x hx) (Nat.pow_le_pow_right (by decide) hk)
theorem wp_tab_r4 {Ω : Str → FSem} {Q X : D → Prop} {x0 x1 x4 x6 x7 x8 : D} {m : Nat} {cell : Int} {nums : List Int} (h1 : 1 ≤ m) (h5 : m ≤ 5) (hl : nums.length = m * m) (hb : Bd 134 nums) (hq : ∀ A, SqM m A → BdM 136 A → Q (LL A)) :
    wpS Ω ci0 ir__law_table_r4 [x0, x1, .int m, .int cell, x4, LI nums, x6, x7, x8, .hole, .hole] (poOf Q X) := by
  unfold ir__law_table_r4
  simp only [wpS, wpE, List.getD_cons_zero, List.getD_cons_succ, List.set_cons_zero, List.set_cons_succ, List.length_map, List.length_cons, List.length_nil, wipeD, cmpI, s_asI, s_asB, s_asL, s_asT, s_asS, s_lvI, s_lvB, s_lvL, s_lvT, s_lvN, s_lvS, s_lvX, s_add, s_sub, s_mul, s_fdiv, s_mod, s_pow, s_lenL, s_lenT, s_abs, s_min, s_max, s_sum, s_any, s_all, s_intI, s_intB, s_list, s_listT, s_tupL, s_tupT, s_one, s_many, s_set, s_set0, s_imI, s_imB, s_imN, s_imT, s_nx, s_rt, s_ex, s_t0, s_t1, s_l0, s_l1, s_asD, s_keyI, s_optS, s_seqL, s_seqT, s_lvD, s_isi7, s_isN1, s_isN2, s_isN3, s_isN4, s_isN5, isNil, asO, s_i1, s_i2, s_i3, s_i4, s_i5, s_i6, eqd_int, eqd_bl, true_and, and_true, decide_eq_true_eq, if_true, ite_true, ite_false, Bool.not_eq_true', decide_eq_false_iff_not, Bool.false_eq_true, Bool.not_false, Bool.not_true, not_true_eq_false, Bool.true_eq_false]
  rw [Int.toNat_natCast]
  refine ⟨by unfold small; omega, by rw [List.length_range]; unfold LIM; omega, ?_⟩
  refine goLC_of (g := fun k : Nat => .int (k : Nat)) (xs := List.range m) (f := fun k => .lst (((nums.drop (k * m)).take m).map D.int)) (fun k hk R S q => ?_) ?_
  · have hk : k < m := List.mem_range.mp hk
    have km : k * m + m ≤ m * m := by
      have := Nat.mul_le_mul_right m (Nat.succ_le_of_lt hk)
      rw [Nat.succ_mul] at this
      exact this
    simp only [wpS, wpE, List.getD_cons_zero, List.getD_cons_succ, List.set_cons_zero, List.set_cons_succ, List.length_map, List.length_cons, List.length_nil, wipeD, cmpI, s_asI, s_asB, s_asL, s_asT, s_asS, s_lvI, s_lvB, s_lvL, s_lvT, s_lvN, s_lvS, s_lvX, s_add, s_sub, s_mul, s_fdiv, s_mod, s_pow, s_lenL, s_lenT, s_abs, s_min, s_max, s_sum, s_any, s_all, s_intI, s_intB, s_list, s_listT, s_tupL, s_tupT, s_one, s_many, s_set, s_set0, s_imI, s_imB, s_imN, s_imT, s_nx, s_rt, s_ex, s_t0, s_t1, s_l0, s_l1, s_asD, s_keyI, s_optS, s_seqL, s_seqT, s_lvD, s_isi7, s_isN1, s_isN2, s_isN3, s_isN4, s_isN5, isNil, asO, s_i1, s_i2, s_i3, s_i4, s_i5, s_i6, eqd_int, eqd_bl, true_and, and_true, decide_eq_true_eq, if_true, ite_true, ite_false, Bool.not_eq_true', decide_eq_false_iff_not, Bool.false_eq_true, Bool.not_false, Bool.not_true, not_true_eq_false, Bool.true_eq_false]
    refine ⟨mulok_l (by omega), ?_⟩
    have := cutG_mid (xs := nums) (j := k * m) (m := m) (by omega)
    rw [show ((k : Int) * (m : Int)) = ((k * m : Nat) : Int) by simp, s_slcI, this]
    exact ⟨mulok_l (by omega), q⟩
  · have e : (List.range m).map (fun k => D.lst (((nums.drop (k * m)).take m).map D.int)) = ((List.range m).map fun k => (nums.drop (k * m)).take m).map fun r => .lst (r.map D.int) := by rw [List.map_map]; rfl
    rw [e]
    generalize hA : ((List.range m).map fun k => (nums.drop (k * m)).take m) = A
    have sq : SqM m A := by
      refine ⟨by rw [← hA]; simp, fun r hr => ?_⟩
      rw [← hA] at hr
      obtain ⟨k, hk, rfl⟩ := List.mem_map.mp hr
      have hk : k < m := List.mem_range.mp hk
      have := Nat.mul_le_mul_right m (Nat.succ_le_of_lt hk)
      rw [Nat.succ_mul] at this
      rw [List.length_take, List.length_drop]
      omega
    have bd : BdM 134 A := fun r hr => by
      rw [← hA] at hr
      obtain ⟨k, hk, rfl⟩ := List.mem_map.mp hr
      exact fun x hx => hb x (List.mem_of_mem_drop (List.mem_of_mem_take hx))
    have bd6 : BdM 136 A := fun r hr => bd_mono (bd r hr) (by decide)
    simp only [wpS, wpE, List.getD_cons_zero, List.getD_cons_succ, List.set_cons_zero, List.set_cons_succ, List.length_map, List.length_cons, List.length_nil, wipeD, cmpI, s_asI, s_asB, s_asL, s_asT, s_asS, s_lvI, s_lvB, s_lvL, s_lvT, s_lvN, s_lvS, s_lvX, s_add, s_sub, s_mul, s_fdiv, s_mod, s_pow, s_lenL, s_lenT, s_abs, s_min, s_max, s_sum, s_any, s_all, s_intI, s_intB, s_list, s_listT, s_tupL, s_tupT, s_one, s_many, s_set, s_set0, s_imI, s_imB, s_imN, s_imT, s_nx, s_rt, s_ex, s_t0, s_t1, s_l0, s_l1, s_asD, s_keyI, s_optS, s_seqL, s_seqT, s_lvD, s_isi7, s_isN1, s_isN2, s_isN3, s_isN4, s_isN5, isNil, asO, s_i1, s_i2, s_i3, s_i4, s_i5, s_i6, eqd_int, eqd_bl, true_and, and_true, decide_eq_true_eq, if_true, ite_true, ite_false, Bool.not_eq_true', decide_eq_false_iff_not, Bool.false_eq_true, Bool.not_false, Bool.not_true, not_true_eq_false, Bool.true_eq_false]
    refine ⟨divok_small (by decide) (by decide), by decide, ?_⟩
    split
    · split
      · rename_i h2
        have h2 : 2 ≤ m := by omega
        refine item_LL (by omega) (by rw [sq.1]; omega) ?_
        refine ⟨divok_small (by decide) (by decide), ?_⟩
        have d1 : 0 ≤ (m : Int).fdiv 2 - 1 ∧ (m : Int).fdiv 2 - 1 < m := by
          have e1 := Int.mul_fdiv_add_fmod (m : Int) 2
          have := fm2 (m : Int)
          omega
        refine item_LL d1.1 (by rw [sq.1]; exact d1.2) ?_
        have m0 := getL_mem (A := A) (k := Int.toNat 0) (by rw [sq.1]; show 0 < m; omega)
        have m1 := getL_mem (A := A) (k := ((m : Int).fdiv 2 - 1).toNat) (by rw [sq.1]; omega)
        generalize A.getD (Int.toNat 0) [] = a at m0
        generalize A.getD ((m : Int).fdiv 2 - 1).toNat [] = b at m1
        simp only [wpS, wpE, List.getD_cons_zero, List.getD_cons_succ, List.set_cons_zero, List.set_cons_succ, List.length_map, List.length_cons, List.length_nil, wipeD, cmpI, s_asI, s_asB, s_asL, s_asT, s_asS, s_lvI, s_lvB, s_lvL, s_lvT, s_lvN, s_lvS, s_lvX, s_add, s_sub, s_mul, s_fdiv, s_mod, s_pow, s_lenL, s_lenT, s_abs, s_min, s_max, s_sum, s_any, s_all, s_intI, s_intB, s_list, s_listT, s_tupL, s_tupT, s_one, s_many, s_set, s_set0, s_imI, s_imB, s_imN, s_imT, s_nx, s_rt, s_ex, s_t0, s_t1, s_l0, s_l1, s_asD, s_keyI, s_optS, s_seqL, s_seqT, s_lvD, s_isi7, s_isN1, s_isN2, s_isN3, s_isN4, s_isN5, isNil, asO, s_i1, s_i2, s_i3, s_i4, s_i5, s_i6, eqd_int, eqd_bl, true_and, and_true, decide_eq_true_eq, if_true, ite_true, ite_false, Bool.not_eq_true', decide_eq_false_iff_not, Bool.false_eq_true, Bool.not_false, Bool.not_true, not_true_eq_false, Bool.true_eq_false]
        rw [zip_I]
        refine ⟨by rw [List.length_map, List.length_zip, sq.2 a m0]; unfold LIM; omega, goLC_of (g := fun p : Int × Int => .tup [.int p.1, .int p.2]) (xs := a.zip b) (f := fun p => .int (2 * p.1 - p.2)) (fun p hp R S q => ?_) ?_⟩
        · simp only [wpS, wpE, List.getD_cons_zero, List.getD_cons_succ, List.set_cons_zero, List.set_cons_succ, List.length_map, List.length_cons, List.length_nil, wipeD, cmpI, s_asI, s_asB, s_asL, s_asT, s_asS, s_lvI, s_lvB, s_lvL, s_lvT, s_lvN, s_lvS, s_lvX, s_add, s_sub, s_mul, s_fdiv, s_mod, s_pow, s_lenL, s_lenT, s_abs, s_min, s_max, s_sum, s_any, s_all, s_intI, s_intB, s_list, s_listT, s_tupL, s_tupT, s_one, s_many, s_set, s_set0, s_imI, s_imB, s_imN, s_imT, s_nx, s_rt, s_ex, s_t0, s_t1, s_l0, s_l1, s_asD, s_keyI, s_optS, s_seqL, s_seqT, s_lvD, s_isi7, s_isN1, s_isN2, s_isN3, s_isN4, s_isN5, isNil, asO, s_i1, s_i2, s_i3, s_i4, s_i5, s_i6, eqd_int, eqd_bl, true_and, and_true, decide_eq_true_eq, if_true, ite_true, ite_false, Bool.not_eq_true', decide_eq_false_iff_not, Bool.false_eq_true, Bool.not_false, Bool.not_true, not_true_eq_false, Bool.true_eq_false]
          exact ⟨mulok_l (by decide), q⟩
        · have ex : ixN A.length (-1) = some (m - 1) := by
            unfold ixN
            rw [if_neg (by decide), sq.1, if_pos (by omega)]
            congr 1
            omega
          have e2 : (a.zip b).map (fun p => D.int (2 * p.1 - p.2)) = ((a.zip b).map fun p => 2 * p.1 - p.2).map D.int := by rw [List.map_map]; rfl
          rw [e2, ex]
          have e3 : (A.map fun r => D.lst (r.map D.int)).set (m - 1) (.lst (((a.zip b).map fun p => 2 * p.1 - p.2).map D.int)) = (A.set (m - 1) ((a.zip b).map fun p => 2 * p.1 - p.2)).map fun r => .lst (r.map D.int) := by rw [List.map_set]
          show wpS Ω ci0 ir__law_table_r6 [x0, x1, .int m, .int cell, x4, LI nums, _, _, .lst ((A.map fun r => D.lst (r.map D.int)).set (m - 1) (.lst (((a.zip b).map fun p => 2 * p.1 - p.2).map D.int))), _, _] (poOf Q X)
          rw [e3]
          refine wp_tab_r6 (hq _ ⟨by rw [List.length_set]; exact sq.1, fun r hr => ?_⟩ fun r hr => ?_)
          · rcases List.mem_or_eq_of_mem_set hr with z | z
            · exact sq.2 r z
            · rw [z, List.length_map, List.length_zip, sq.2 a m0, sq.2 b m1]; omega
          · rcases List.mem_or_eq_of_mem_set hr with z | z
            · exact bd6 r z
            · rw [z]
              intro x hx
              obtain ⟨p, hp, rfl⟩ := List.mem_map.mp hx
              have := List.of_mem_zip (a := p.1) (b := p.2) hp
              have a1 := bd a m0 _ this.1
              have a2 := bd b m1 _ this.2
              have e : (2 : Nat) ^ 136 = 4 * 2 ^ 134 := by decide +kernel
              omega
      · exact wp_tab_r6 (hq A sq bd6)
    · exact wp_tab_r6 (hq A sq bd6)
theorem wp_tab_r2 {Ω : Str → FSem} {Q X : D → Prop} {x5 x8 : D} {ns : List Int} {s m : Nat} {cell z : Int} (h : Ω "_law_numbers" = sem__law_numbers) (hs : s ≤ 1000) (h1 : 1 ≤ m) (h5 : m ≤ 5) (z0 : 0 ≤ z) (z1 : z.natAbs < 2 ^ 134) (hq : ∀ A, SqM m A → BdM 136 A → Q (LL A)) :
    wpS Ω ci0 ir__law_table_r2 [LI ns, .int s, .int m, .int cell, .int z, x5, .hole, .hole, x8, .hole, .hole] (poOf Q X) := by
  unfold ir__law_table_r2
  simp only [wpS, wpE, List.getD_cons_zero, List.getD_cons_succ, List.set_cons_zero, List.set_cons_succ, List.length_map, List.length_cons, List.length_nil, wipeD, cmpI, s_asI, s_asB, s_asL, s_asT, s_asS, s_lvI, s_lvB, s_lvL, s_lvT, s_lvN, s_lvS, s_lvX, s_add, s_sub, s_mul, s_fdiv, s_mod, s_pow, s_lenL, s_lenT, s_abs, s_min, s_max, s_sum, s_any, s_all, s_intI, s_intB, s_list, s_listT, s_tupL, s_tupT, s_one, s_many, s_set, s_set0, s_imI, s_imB, s_imN, s_imT, s_nx, s_rt, s_ex, s_t0, s_t1, s_l0, s_l1, s_asD, s_keyI, s_optS, s_seqL, s_seqT, s_lvD, s_isi7, s_isN1, s_isN2, s_isN3, s_isN4, s_isN5, isNil, asO, s_i1, s_i2, s_i3, s_i4, s_i5, s_i6, eqd_int, eqd_bl, true_and, and_true, decide_eq_true_eq, if_true, ite_true, ite_false, Bool.not_eq_true', decide_eq_false_iff_not, Bool.false_eq_true, Bool.not_false, Bool.not_true, not_true_eq_false, Bool.true_eq_false, h]
  have mm : m * m ≤ 5 * 5 := Nat.mul_le_mul h5 h5
  refine ⟨mulok_l (by omega), ns, s, m * m, z, by simp, by omega, by omega, z0, ?_⟩
  have hb : Bd 134 (lawNums ns s (m * m) z) := fun x hx => by have := lawNums_bd z0 x hx; omega
  have hl : (lawNums ns s (m * m) z).length = m * m := lawNums_len
  generalize lawNums ns s (m * m) z = nums at hb hl
  simp only [wpS, wpE, List.getD_cons_zero, List.getD_cons_succ, List.set_cons_zero, List.set_cons_succ, List.length_map, List.length_cons, List.length_nil, wipeD, cmpI, s_asI, s_asB, s_asL, s_asT, s_asS, s_lvI, s_lvB, s_lvL, s_lvT, s_lvN, s_lvS, s_lvX, s_add, s_sub, s_mul, s_fdiv, s_mod, s_pow, s_lenL, s_lenT, s_abs, s_min, s_max, s_sum, s_any, s_all, s_intI, s_intB, s_list, s_listT, s_tupL, s_tupT, s_one, s_many, s_set, s_set0, s_imI, s_imB, s_imN, s_imT, s_nx, s_rt, s_ex, s_t0, s_t1, s_l0, s_l1, s_asD, s_keyI, s_optS, s_seqL, s_seqT, s_lvD, s_isi7, s_isN1, s_isN2, s_isN3, s_isN4, s_isN5, isNil, asO, s_i1, s_i2, s_i3, s_i4, s_i5, s_i6, eqd_int, eqd_bl, true_and, and_true, decide_eq_true_eq, if_true, ite_true, ite_false, Bool.not_eq_true', decide_eq_false_iff_not, Bool.false_eq_true, Bool.not_false, Bool.not_true, not_true_eq_false, Bool.true_eq_false]
  refine ⟨divok_small (by decide) (by decide), by decide, ?_⟩
  split
  · rw [enm_L]
    refine ⟨by simp; rw [hl]; unfold LIM; omega, goLC_of (g := fun p : Nat × Int => .tup [.int (p.1 : Nat), .int p.2]) (xs := nums.mapIdx fun k x => (k, x)) (f := fun p => .int (p.2 * (p.2.fdiv 3 + (p.1 : Int) * (p.1 : Int)).fmod 2)) (fun p hp R S q => ?_) ?_⟩
    · have hp := idx_mem hp
      have pl := (List.getElem?_eq_some_iff.mp hp).1
      have f2 := fm2 (p.2.fdiv 3 + (p.1 : Int) * (p.1 : Int))
      simp only [wpS, wpE, List.getD_cons_zero, List.getD_cons_succ, List.set_cons_zero, List.set_cons_succ, List.length_map, List.length_cons, List.length_nil, wipeD, cmpI, s_asI, s_asB, s_asL, s_asT, s_asS, s_lvI, s_lvB, s_lvL, s_lvT, s_lvN, s_lvS, s_lvX, s_add, s_sub, s_mul, s_fdiv, s_mod, s_pow, s_lenL, s_lenT, s_abs, s_min, s_max, s_sum, s_any, s_all, s_intI, s_intB, s_list, s_listT, s_tupL, s_tupT, s_one, s_many, s_set, s_set0, s_imI, s_imB, s_imN, s_imT, s_nx, s_rt, s_ex, s_t0, s_t1, s_l0, s_l1, s_asD, s_keyI, s_optS, s_seqL, s_seqT, s_lvD, s_isi7, s_isN1, s_isN2, s_isN3, s_isN4, s_isN5, isNil, asO, s_i1, s_i2, s_i3, s_i4, s_i5, s_i6, eqd_int, eqd_bl, true_and, and_true, decide_eq_true_eq, if_true, ite_true, ite_false, Bool.not_eq_true', decide_eq_false_iff_not, Bool.false_eq_true, Bool.not_false, Bool.not_true, not_true_eq_false, Bool.true_eq_false]
      exact ⟨divok_small (by decide) (by decide), mulok_l (by omega), by decide, mulok_r (by omega), q⟩
    · have e : (nums.mapIdx fun k x => (k, x)).map (fun p => D.int (p.2 * (p.2.fdiv 3 + (p.1 : Int) * (p.1 : Int)).fmod 2)) = ((nums.mapIdx fun k x => (k, x)).map fun p : Nat × Int => p.2 * (p.2.fdiv 3 + (p.1 : Int) * (p.1 : Int)).fmod 2).map D.int := by rw [List.map_map]; rfl
      rw [e]
      refine wp_tab_r4 h1 h5 (by simpa using hl) (fun x hx => ?_) hq
      obtain ⟨p, hp, rfl⟩ := List.mem_map.mp hx
      have hm := List.mem_of_getElem? (idx_mem hp)
      have hb := hb _ hm
      rcases fm2 (p.2.fdiv 3 + (p.1 : Int) * (p.1 : Int)) with e | e <;> rw [e]
      · rw [Int.mul_zero]; exact Nat.two_pow_pos _
      · rw [Int.mul_one]; exact hb
  · exact wp_tab_r4 h1 h5 hl hb hq
theorem item_4 {a b c d j : Int} {K : D → Prop} (h0 : 0 ≤ j) (h1 : j < 4) (h : ∀ z, (z = a ∨ z = b ∨ z = c ∨ z = d) → K (.int z)) : itemD (.lst [.int a, .int b, .int c, .int d]) j K := by
  refine item_LI (xs := [a, b, c, d]) h0 (by simpa using h1) (h _ ?_)
  obtain rfl | rfl | rfl | rfl : j = 0 ∨ j = 1 ∨ j = 2 ∨ j = 3 := by omega
  · exact .inl rfl
  · exact .inr (.inl rfl)
  · exact .inr (.inr (.inl rfl))
  · exact .inr (.inr (.inr rfl))
theorem wp__law_table {Ω : Str → FSem} (h : Ω "_law_numbers" = sem__law_numbers) : ∀ ds Q X, ds.length = P__law_table.length → sem__law_table ds Q X → wpS Ω ci0 ir__law_table (holesTo ds N__law_table.length) (poOf Q X) := by
  rintro ds Q X _ ⟨ns, s, m, cell, rfl, hs, h1, h5, hq⟩
  show wpS Ω _ ir__law_table [LI ns, .int s, .int m, .int cell, .hole, .hole, .hole, .hole, .hole, .hole, .hole] (poOf Q X)
  unfold ir__law_table
  simp only [wpS, wpE, List.getD_cons_zero, List.getD_cons_succ, List.set_cons_zero, List.set_cons_succ, List.length_map, List.length_cons, List.length_nil, wipeD, cmpI, s_asI, s_asB, s_asL, s_asT, s_asS, s_lvI, s_lvB, s_lvL, s_lvT, s_lvN, s_lvS, s_lvX, s_add, s_sub, s_mul, s_fdiv, s_mod, s_pow, s_lenL, s_lenT, s_abs, s_min, s_max, s_sum, s_any, s_all, s_intI, s_intB, s_list, s_listT, s_tupL, s_tupT, s_one, s_many, s_set, s_set0, s_imI, s_imB, s_imN, s_imT, s_nx, s_rt, s_ex, s_t0, s_t1, s_l0, s_l1, s_asD, s_keyI, s_optS, s_seqL, s_seqT, s_lvD, s_isi7, s_isN1, s_isN2, s_isN3, s_isN4, s_isN5, isNil, asO, s_i1, s_i2, s_i3, s_i4, s_i5, s_i6, eqd_int, eqd_bl, true_and, and_true, decide_eq_true_eq, if_true, ite_true, ite_false, Bool.not_eq_true', decide_eq_false_iff_not, Bool.false_eq_true, Bool.not_false, Bool.not_true, not_true_eq_false, Bool.true_eq_false]
  refine ⟨⟨by decide, by decide, by decide⟩, by decide, item_4 (fm_nn _ (by decide)) (Int.fmod_lt_of_pos _ (by decide)) fun z hz => ?_⟩
  have zb : 0 ≤ z ∧ z.natAbs < 2 ^ 134 := by
    rcases hz with rfl | rfl | rfl | rfl <;> decide +kernel
  split
  · refine ⟨divok_small (by decide) (by decide), by decide, ?_⟩
    split
    · exact ⟨⟨by decide, by decide, by decide⟩, wp_tab_r2 h hs h1 h5 (by decide +kernel) (by decide +kernel) hq⟩
    · exact wp_tab_r2 h hs h1 h5 zb.1 zb.2 hq
  · exact wp_tab_r2 h hs h1 h5 zb.1 zb.2 hq
end FM.Lib

set_option Elab.async false
set_option linter.all false
set_option maxRecDepth 100000
namespace FM.K71
open PySem L2 Lib
def topS (i : Nat) : Stmt := PySem.Challenge.pw_flatmeet_k71_rows_moved.main.body.getD i (.Pass ⟨0, 0, 0, 0⟩)
def rz : Str → Bool := fun x => (["BadRow", "BadTable", "NotAlike"] : List Str).contains x
def glF : Str → Option Int := fun x => List.lookup x [(("WAYS" : Str), (5 : Int))]
def trF : Bool := false
def ic : Str → Bool := fun x => ([] : List Str).contains x
/-! ### _law_cell -/
def sg__law_cell : List (Str × Sig) := []
abbrev st__law_cell : Stmt := topS 17
theorem sc__law_cell : FnScope N__law_cell P__law_cell (defScope st__law_cell) := ⟨rfl, rfl, rfl, by decide +kernel, rfl, by decide +kernel, by decide +kernel⟩
theorem mt__law_cell : matchS (mcOf N__law_cell (defScope st__law_cell) ic rz trF glF) ir__law_cell (defBody st__law_cell) = true := by decide +kernel
theorem ty__law_cell : (tyS ⟨sgL sg__law_cell, none⟩ .deep ir__law_cell (start0 P__law_cell.length N__law_cell.length)).isSome = true := by decide +kernel
/-! ### _law_numbers -/
def sg__law_numbers : List (Str × Sig) := []
abbrev st__law_numbers : Stmt := topS 20
theorem sc__law_numbers : FnScope N__law_numbers P__law_numbers (defScope st__law_numbers) := ⟨rfl, rfl, rfl, by decide +kernel, rfl, by decide +kernel, by decide +kernel⟩
theorem mt__law_numbers : matchS (mcOf N__law_numbers (defScope st__law_numbers) ic rz trF glF) ir__law_numbers (defBody st__law_numbers) = true := by decide +kernel
theorem ty__law_numbers : (tyS ⟨sgL sg__law_numbers, none⟩ .deep ir__law_numbers (start0 P__law_numbers.length N__law_numbers.length)).isSome = true := by decide +kernel
/-! ### _law_table -/
def sg__law_table : List (Str × Sig) := [("_law_numbers", ⟨4, .deep⟩)]
abbrev st__law_table : Stmt := topS 21
theorem sc__law_table : FnScope N__law_table P__law_table (defScope st__law_table) := ⟨rfl, rfl, rfl, by decide +kernel, rfl, by decide +kernel, by decide +kernel⟩
theorem mt__law_table : matchS (mcOf N__law_table (defScope st__law_table) ic rz trF glF) ir__law_table (defBody st__law_table) = true := by decide +kernel
theorem ty__law_table : (tyS ⟨sgL sg__law_table, none⟩ .deep ir__law_table (start0 P__law_table.length N__law_table.length)).isSome = true := by decide +kernel
/-! ### look_at_table -/
def sg_look_at_table : List (Str × Sig) := []
abbrev st_look_at_table : Stmt := topS 12
theorem sc_look_at_table : FnScope N_look_at_table P_look_at_table (defScope st_look_at_table) := ⟨rfl, rfl, rfl, by decide +kernel, rfl, by decide +kernel, by decide +kernel⟩
theorem mt_look_at_table : matchS (mcOf N_look_at_table (defScope st_look_at_table) ic rz trF glF) ir_look_at_table (defBody st_look_at_table) = true := by decide +kernel
theorem ty_look_at_table : (tyS ⟨sgL sg_look_at_table, none⟩ .deep ir_look_at_table (start0 P_look_at_table.length N_look_at_table.length)).isSome = true := by decide +kernel
/-! ### look_alike -/
def sg_look_alike : List (Str × Sig) := []
abbrev st_look_alike : Stmt := topS 9
theorem sc_look_alike : FnScope N_look_alike P_look_alike (defScope st_look_alike) := ⟨rfl, rfl, rfl, by decide +kernel, rfl, by decide +kernel, by decide +kernel⟩
theorem mt_look_alike : matchS (mcOf N_look_alike (defScope st_look_alike) ic rz trF glF) ir_look_alike (defBody st_look_alike) = true := by decide +kernel
theorem ty_look_alike : (tyS ⟨sgL sg_look_alike, none⟩ .deep ir_look_alike (start0 P_look_alike.length N_look_alike.length)).isSome = true := by decide +kernel
/-! ### weighed -/
def sg_weighed : List (Str × Sig) := [("look_alike", ⟨2, .deep⟩)]
abbrev st_weighed : Stmt := topS 10
theorem sc_weighed : FnScope N_weighed P_weighed (defScope st_weighed) := ⟨rfl, rfl, rfl, by decide +kernel, rfl, by decide +kernel, by decide +kernel⟩
theorem mt_weighed : matchS (mcOf N_weighed (defScope st_weighed) ic rz trF glF) ir_weighed (defBody st_weighed) = true := by decide +kernel
theorem ty_weighed : (tyS ⟨sgL sg_weighed, none⟩ .deep ir_weighed (start0 P_weighed.length N_weighed.length)).isSome = true := by decide +kernel
/-! ### moved -/
def sg_moved : List (Str × Sig) := [("look_at_table", ⟨1, .deep⟩), ("weighed", ⟨2, .deep⟩)]
abbrev st_moved : Stmt := topS 13
theorem sc_moved : FnScope N_moved P_moved (defScope st_moved) := ⟨rfl, rfl, rfl, by decide +kernel, rfl, by decide +kernel, by decide +kernel⟩
theorem mt_moved : matchS (mcOf N_moved (defScope st_moved) ic rz trF glF) ir_moved (defBody st_moved) = true := by decide +kernel
theorem ty_moved : (tyS ⟨sgL sg_moved, none⟩ .deep ir_moved (start0 P_moved.length N_moved.length)).isSome = true := by decide +kernel
/-! ### _law_moved -/
def N__law_moved : List Str := ["table", "row", "a", "b", "line"]
def P__law_moved : List Str := ["table", "row"]
def ir__law_moved : IS :=
  .cons (.ret (.lc [("line", 4)] (.blt .sum (.cons (.lc [("a", 2), ("b", 3)] (.bin .mul (.var 2) (.var 3)) (.many [2, 3]) (.zip (.var 4) (.var 1)) (.bl true)) .nil)) (.one 4) (.var 0) (.bl true))) .nil
def sg__law_moved : List (Str × Sig) := []
abbrev st__law_moved : Stmt := topS 23
theorem sc__law_moved : FnScope N__law_moved P__law_moved (defScope st__law_moved) := ⟨rfl, rfl, rfl, by decide +kernel, rfl, by decide +kernel, by decide +kernel⟩
theorem mt__law_moved : matchS (mcOf N__law_moved (defScope st__law_moved) ic rz trF glF) ir__law_moved (defBody st__law_moved) = true := by decide +kernel
theorem ty__law_moved : (tyS ⟨sgL sg__law_moved, none⟩ .deep ir__law_moved (start0 P__law_moved.length N__law_moved.length)).isSome = true := by decide +kernel
/-! ### _law_whole -/
def sg__law_whole : List (Str × Sig) := []
abbrev st__law_whole : Stmt := topS 16
theorem sc__law_whole : FnScope N__law_whole P__law_whole (defScope st__law_whole) := ⟨rfl, rfl, rfl, by decide +kernel, rfl, by decide +kernel, by decide +kernel⟩
theorem mt__law_whole : matchS (mcOf N__law_whole (defScope st__law_whole) ic rz trF glF) ir__law_whole (defBody st__law_whole) = true := by decide +kernel
theorem ty__law_whole : (tyS ⟨sgL sg__law_whole, none⟩ .deep ir__law_whole (start0 P__law_whole.length N__law_whole.length)).isSome = true := by decide +kernel
/-! ### _law_same -/
def sg__law_same : List (Str × Sig) := [("_law_whole", ⟨1, .deep⟩)]
abbrev st__law_same : Stmt := topS 18
theorem sc__law_same : FnScope N__law_same P__law_same (defScope st__law_same) := ⟨rfl, rfl, rfl, by decide +kernel, rfl, by decide +kernel, by decide +kernel⟩
theorem mt__law_same : matchS (mcOf N__law_same (defScope st__law_same) ic rz trF glF) ir__law_same (defBody st__law_same) = true := by decide +kernel
theorem ty__law_same : (tyS ⟨sgL sg__law_same, none⟩ .deep ir__law_same (start0 P__law_same.length N__law_same.length)).isSome = true := by decide +kernel
/-! ### columns_of -/
def sg_columns_of : List (Str × Sig) := []
abbrev st_columns_of : Stmt := topS 6
theorem sc_columns_of : FnScope N_columns_of P_columns_of (defScope st_columns_of) := ⟨rfl, rfl, rfl, by decide +kernel, rfl, by decide +kernel, by decide +kernel⟩
theorem mt_columns_of : matchS (mcOf N_columns_of (defScope st_columns_of) ic rz trF glF) ir_columns_of (defBody st_columns_of) = true := by decide +kernel
theorem ty_columns_of : (tyS ⟨sgL sg_columns_of, none⟩ .deep ir_columns_of (start0 P_columns_of.length N_columns_of.length)).isSome = true := by decide +kernel
/-! ### behind -/
def sg_behind : List (Str × Sig) := [("look_at_table", ⟨1, .deep⟩), ("columns_of", ⟨2, .deep⟩), ("weighed", ⟨2, .deep⟩)]
abbrev st_behind : Stmt := topS 14
theorem sc_behind : FnScope N_behind P_behind (defScope st_behind) := ⟨rfl, rfl, rfl, by decide +kernel, rfl, by decide +kernel, by decide +kernel⟩
theorem mt_behind : matchS (mcOf N_behind (defScope st_behind) ic rz trF glF) ir_behind (defBody st_behind) = true := by decide +kernel
theorem ty_behind : (tyS ⟨sgL sg_behind, none⟩ .deep ir_behind (start0 P_behind.length N_behind.length)).isSome = true := by decide +kernel
/-! ### _law_through -/
def sg__law_through : List (Str × Sig) := []
abbrev st__law_through : Stmt := topS 22
theorem sc__law_through : FnScope N__law_through P__law_through (defScope st__law_through) := ⟨rfl, rfl, rfl, by decide +kernel, rfl, by decide +kernel, by decide +kernel⟩
theorem mt__law_through : matchS (mcOf N__law_through (defScope st__law_through) ic rz trF glF) ir__law_through (defBody st__law_through) = true := by decide +kernel
theorem ty__law_through : (tyS ⟨sgL sg__law_through, none⟩ .deep ir__law_through (start0 P__law_through.length N__law_through.length)).isSome = true := by decide +kernel
/-! ### _law_same_rows -/
def sg__law_same_rows : List (Str × Sig) := [("_law_same", ⟨2, .deep⟩)]
abbrev st__law_same_rows : Stmt := topS 19
theorem sc__law_same_rows : FnScope N__law_same_rows P__law_same_rows (defScope st__law_same_rows) := ⟨rfl, rfl, rfl, by decide +kernel, rfl, by decide +kernel, by decide +kernel⟩
theorem mt__law_same_rows : matchS (mcOf N__law_same_rows (defScope st__law_same_rows) ic rz trF glF) ir__law_same_rows (defBody st__law_same_rows) = true := by decide +kernel
theorem ty__law_same_rows : (tyS ⟨sgL sg__law_same_rows, none⟩ .deep ir__law_same_rows (start0 P__law_same_rows.length N__law_same_rows.length)).isSome = true := by decide +kernel
/-! ### _law_good -/
def N__law_good : List Str := ["one", "other", "row", "found", "line"]
def P__law_good : List Str := ["one", "other", "row"]
def ir__law_good : IS :=
  .cons (.ite (.not (.call "_law_same" (.cons (.call "moved" (.cons (.var 0) (.cons (.var 2) .nil))) (.cons (.call "_law_moved" (.cons (.var 0) (.cons (.var 2) .nil))) .nil)))) (.cons (.ret (.bl false)) .nil) .nil) (.cons (.set 3 (.call "behind" (.cons (.var 0) (.cons (.var 1) .nil)))) (.cons (.ite (.not (.call "_law_same_rows" (.cons (.bor 3) (.cons (.call "_law_through" (.cons (.var 0) (.cons (.var 1) .nil))) .nil)))) (.cons (.ret (.bl false)) .nil) .nil) (.cons (.ite (.eq true (.call "moved" (.cons (.bor 3) (.cons (.var 2) .nil))) (.call "moved" (.cons (.var 0) (.cons (.call "moved" (.cons (.var 1) (.cons (.var 2) .nil))) .nil)))) (.cons (.ret (.bl false)) .nil) .nil) (.cons (.appEach 3 4 0) (.cons (.app 3 (.lst .nil)) (.cons (.appT (.call "moved" (.cons (.var 0) (.cons (.var 2) .nil))) (.int 0)) (.cons (.ret (.call "_law_same_rows" (.cons (.call "behind" (.cons (.var 0) (.cons (.var 1) .nil))) (.cons (.call "_law_through" (.cons (.var 0) (.cons (.var 1) .nil))) .nil)))) .nil)))))))
def sg__law_good : List (Str × Sig) := [("moved", ⟨2, .deep⟩), ("_law_moved", ⟨2, .deep⟩), ("_law_same", ⟨2, .deep⟩), ("behind", ⟨2, .deep⟩), ("_law_through", ⟨2, .deep⟩), ("_law_same_rows", ⟨2, .deep⟩)]
abbrev st__law_good : Stmt := topS 24
theorem sc__law_good : FnScope N__law_good P__law_good (defScope st__law_good) := ⟨rfl, rfl, rfl, by decide +kernel, rfl, by decide +kernel, by decide +kernel⟩
theorem mt__law_good : matchS (mcOf N__law_good (defScope st__law_good) ic rz trF glF) ir__law_good (defBody st__law_good) = true := by decide +kernel
theorem ty__law_good : (tyS ⟨sgL sg__law_good, none⟩ .deep ir__law_good (start0 P__law_good.length N__law_good.length)).isSome = true := by decide +kernel
/-! ### law -/
def N_law : List Str := ["script", "many", "one", "other", "row", "plain", "j", "k", "kept", "line"]
def P_law : List Str := ["script"]
def ir_law : IS :=
  .cons (.set 1 (.bin .add (.int 1) (.bin .mod (.call "_law_cell" (.cons (.var 0) (.cons (.int 0) .nil))) (.int 5)))) (.cons (.set 2 (.call "_law_table" (.cons (.var 0) (.cons (.int 3) (.cons (.bor 1) (.cons (.call "_law_cell" (.cons (.var 0) (.cons (.int 1) .nil))) .nil)))))) (.cons (.set 3 (.call "_law_table" (.cons (.var 0) (.cons (.bin .add (.int 3) (.bin .mul (.bor 1) (.bor 1))) (.cons (.bor 1) (.cons (.call "_law_cell" (.cons (.var 0) (.cons (.int 2) .nil))) .nil)))))) (.cons (.set 4 (.call "_law_numbers" (.cons (.var 0) (.cons (.int 7) (.cons (.bor 1) (.cons (.ix (.lst (.cons (.int 9) (.cons (.bin .pow (.int 10) (.int 50)) .nil))) (.bin .mod (.bin .fdiv (.call "_law_cell" (.cons (.var 0) (.cons (.int 0) .nil))) (.int 5)) (.int 2))) .nil)))))) (.cons (.set 5 (.lc [("k", 7)] (.lc [("j", 6)] (.blt .toInt (.cons (.eq false (.var 6) (.var 7)) .nil)) (.one 6) (.rng1 (.var 1)) (.bl true)) (.one 7) (.rng1 (.bor 1)) (.bl true))) (.cons (.set 8 (.lst (.cons (.lc [("line", 9)] (.blt (.toList true) (.cons (.var 9) .nil)) (.one 9) (.bor 2) (.bl true)) (.cons (.lc [("line", 9)] (.blt (.toList true) (.cons (.var 9) .nil)) (.one 9) (.bor 3) (.bl true)) (.cons (.blt (.toList true) (.cons (.bor 4) .nil)) .nil))))) (.cons (.ite (.or (.not (.call "_law_good" (.cons (.bor 2) (.cons (.bor 3) (.cons (.bor 4) .nil))))) (.or (.not (.call "_law_good" (.cons (.bor 3) (.cons (.bor 2) (.cons (.bor 4) .nil))))) (.not (.call "_law_good" (.cons (.bor 2) (.cons (.bor 2) (.cons (.bor 4) .nil))))))) (.cons (.ret (.bl false)) .nil) .nil) (.cons (.ite (.or (.not (.call "_law_good" (.cons (.bor 5) (.cons (.bor 2) (.cons (.bor 4) .nil))))) (.not (.call "_law_good" (.cons (.bor 2) (.cons (.bor 5) (.cons (.bor 4) .nil)))))) (.cons (.ret (.bl false)) .nil) .nil) (.cons (.ret (.and (.eq false (.lst (.cons (.var 2) (.cons (.var 3) (.cons (.var 4) .nil)))) (.bor 8)) (.eq false (.bor 5) (.lc [("k", 7)] (.lc [("j", 6)] (.blt .toInt (.cons (.eq false (.var 6) (.var 7)) .nil)) (.one 6) (.rng1 (.var 1)) (.bl true)) (.one 7) (.rng1 (.bor 1)) (.bl true))))) .nil))))))))
def sg_law : List (Str × Sig) := [("_law_cell", ⟨2, .deep⟩), ("_law_table", ⟨4, .deep⟩), ("_law_numbers", ⟨4, .deep⟩), ("_law_good", ⟨3, .deep⟩)]
abbrev st_law : Stmt := topS 25
theorem sc_law : FnScope N_law P_law (defScope st_law) := ⟨rfl, rfl, rfl, by decide +kernel, rfl, by decide +kernel, by decide +kernel⟩
theorem mt_law : matchS (mcOf N_law (defScope st_law) ic rz trF glF) ir_law (defBody st_law) = true := by decide +kernel
theorem ty_law : (tyS ⟨sgL sg_law, none⟩ .deep ir_law (start0 P_law.length N_law.length)).isSome = true := by decide +kernel
end FM.K71

set_option Elab.async false
set_option linter.all false
set_option maxRecDepth 100000
namespace FM.K71
open PySem L2 Lib
/-! ### tables behind one another -/
theorem map_congr_len {A : List (List Int)} {f g : List Int → Int} (h : ∀ a ∈ A, f a = g a) : A.map f = A.map g := List.map_congr_left h
def rowM (n : Nat) (a : List Int) (B : List (List Int)) : List Int := (cols n B).map fun c => dot a c
theorem dot_map_range (f : Nat → Int) : ∀ (r : List Int) (n s : Nat), r.length = n → dot ((List.range' s n).map f) r = ((List.range' s n).map fun j => f j * r.getD (j - s) 0).sum := by
  intro r
  induction r with
  | nil => intro n s h; simp at h; subst h; rfl
  | cons y r ih =>
    intro n s h
    cases n with
    | zero => simp at h
    | succ n =>
      have hl : r.length = n := by simpa using h
      rw [List.range'_succ, List.map_cons, dot_cons, List.map_cons, List.sum_cons, ih n (s + 1) hl]
      rw [show s - s = 0 by omega]
      congr 1
      congr 1
      refine List.map_congr_left fun j hj => ?_
      have := List.mem_range'_1.mp hj
      rw [show j - s = (j - (s + 1)) + 1 by omega]
      rfl
theorem dot_rowM {n : Nat} {r : List Int} (hr : r.length = n) : ∀ {a : List Int} {B : List (List Int)}, a.length = B.length → (∀ b ∈ B, b.length = n) → dot (rowM n a B) r = dot a (B.map fun b => dot b r) := by
  have base : ∀ f : Nat → Int, dot ((List.range n).map f) r = ((List.range n).map fun j => f j * r.getD j 0).sum := fun f => by
    rw [List.range_eq_range', dot_map_range f r n 0 hr]; simp
  have sumAdd : ∀ (l : List Nat) (f g : Nat → Int), (l.map fun j => f j + g j).sum = (l.map f).sum + (l.map g).sum := by
    intro l f g
    induction l with
    | nil => rfl
    | cons x l ih => rw [List.map_cons, List.sum_cons, List.map_cons, List.sum_cons, List.map_cons, List.sum_cons, ih]; omega
  have sumMul : ∀ (l : List Nat) (c : Int) (f : Nat → Int), (l.map fun j => c * f j).sum = c * (l.map f).sum := by
    intro l c f
    induction l with
    | nil => simp
    | cons x l ih => rw [List.map_cons, List.sum_cons, List.map_cons, List.sum_cons, ih, Int.mul_add]
  have expand : ∀ b : List Int, b.length = n → dot b r = ((List.range n).map fun j => b.getD j 0 * r.getD j 0).sum := fun b hb => by
    have e : b = (List.range n).map fun j => b.getD j 0 := by
      refine List.ext_getElem (by simp [hb]) fun i h1 h2 => ?_
      simp [List.getD_eq_getElem?_getD, h1]
    conv => lhs; rw [e]
    exact base _
  intro a
  induction a with
  | nil =>
    intro B hB _
    have : B = [] := List.length_eq_zero_iff.mp (by simpa using hB.symm)
    subst this
    unfold rowM cols
    rw [List.map_map, base]
    show ((List.range n).map fun j => dot [] (col j []) * r.getD j 0).sum = 0
    have : ((List.range n).map fun j => dot [] (col j []) * r.getD j 0) = (List.range n).map fun j => 0 * r.getD j 0 := List.map_congr_left fun j _ => by rw [dot_nil]
    rw [this, sumMul, Int.zero_mul]
  | cons x a ih =>
    intro B hB hn
    cases B with
    | nil => simp at hB
    | cons b B =>
      have hB' : a.length = B.length := by simpa using hB
      have i := ih hB' fun b hb => hn b (List.mem_cons_of_mem _ hb)
      rw [List.map_cons, dot_cons, ← i, expand b (hn b List.mem_cons_self)]
      unfold rowM cols
      rw [List.map_map, List.map_map, base, base, ← sumMul, ← sumAdd]
      congr 1
      refine List.map_congr_left fun j _ => ?_
      show dot (x :: a) (b.getD j 0 :: col j B) * r.getD j 0 = x * (b.getD j 0 * r.getD j 0) + dot a (col j B) * r.getD j 0
      rw [dot_cons, Int.add_mul, Int.mul_assoc]
theorem mv_mul {m : Nat} {A B : List (List Int)} {r : List Int} (hA : SqM m A) (hB : SqM m B) (hr : r.length = m) : mv (mulM A B) r = mv A (mv B r) := by
  unfold mv mulM
  rw [List.map_map]
  refine List.map_congr_left fun a ha => ?_
  have := dot_rowM (n := m) hr (a := a) (B := B) (by rw [hA.2 a ha, hB.1]) hB.2
  rw [← this, hB.1]
  rfl
theorem mul_sq {m : Nat} {A B : List (List Int)} (hA : SqM m A) (hB : SqM m B) : SqM m (mulM A B) := by
  refine ⟨by unfold mulM; rw [List.length_map]; exact hA.1, fun r hr => ?_⟩
  obtain ⟨a, ha, rfl⟩ := List.mem_map.mp hr
  unfold cols
  simp [hB.1]
theorem lstsOf_LL : ∀ rs : List (List Int), lstsOf (rs.map fun r => D.lst (r.map D.int)) = some (rs.map fun r => r.map D.int)
  | [] => rfl
  | r :: rs => by
    show (lstsOf (rs.map fun r => D.lst (r.map D.int))).map (_ :: ·) = _
    rw [lstsOf_LL rs]; rfl
/-! ### the defs -/
def sem__law_moved : FSem := fun ds Q _ => ∃ (A : List (List Int)) (r : List Int), ds = [LL A, LI r] ∧ A.length ≤ 1000 ∧ r.length ≤ 1000 ∧ (∀ a ∈ A, ∀ x ∈ a, ∀ y ∈ r, IntMulOk x y) ∧ Q (LI (mv A r))
theorem wp__law_moved {Ω : Str → FSem} : ∀ ds Q X, ds.length = P__law_moved.length → sem__law_moved ds Q X → wpS Ω ci0 ir__law_moved (holesTo ds N__law_moved.length) (poOf Q X) := by
  rintro ds Q X _ ⟨A, r, rfl, h1, h2, hm, hq⟩
  show wpS Ω _ ir__law_moved [LL A, LI r, .hole, .hole, .hole] (poOf Q X)
  unfold ir__law_moved
  simp only [wpS, wpE, List.getD_cons_zero, List.getD_cons_succ, List.set_cons_zero, List.set_cons_succ, List.length_map, List.length_cons, List.length_nil, wipeD, cmpI, s_asI, s_asB, s_asL, s_asT, s_asS, s_lvI, s_lvB, s_lvL, s_lvT, s_lvN, s_lvS, s_lvX, s_add, s_sub, s_mul, s_fdiv, s_mod, s_pow, s_lenL, s_lenT, s_abs, s_min, s_max, s_sum, s_any, s_all, s_intI, s_intB, s_list, s_listT, s_tupL, s_tupT, s_one, s_many, s_set, s_set0, s_imI, s_imB, s_imN, s_imT, s_nx, s_rt, s_ex, s_t0, s_t1, s_l0, s_l1, s_asD, s_keyI, s_optS, s_seqL, s_seqT, s_lvD, s_isi7, s_isN1, s_isN2, s_isN3, s_isN4, s_isN5, isNil, asO, s_i1, s_i2, s_i3, s_i4, s_i5, s_i6, eqd_int, eqd_bl, true_and, and_true, decide_eq_true_eq, if_true, ite_true, ite_false, Bool.not_eq_true', decide_eq_false_iff_not, Bool.false_eq_true, Bool.not_false, Bool.not_true, not_true_eq_false, Bool.true_eq_false]
  refine ⟨by unfold LIM; omega, goLC_of (g := fun r => .lst (r.map D.int)) (xs := A) (f := fun a => .int (dot a r)) (fun a ha R S q => ?_) ?_⟩
  · simp only [wpS, wpE, List.getD_cons_zero, List.getD_cons_succ, List.set_cons_zero, List.set_cons_succ, List.length_map, List.length_cons, List.length_nil, wipeD, cmpI, s_asI, s_asB, s_asL, s_asT, s_asS, s_lvI, s_lvB, s_lvL, s_lvT, s_lvN, s_lvS, s_lvX, s_add, s_sub, s_mul, s_fdiv, s_mod, s_pow, s_lenL, s_lenT, s_abs, s_min, s_max, s_sum, s_any, s_all, s_intI, s_intB, s_list, s_listT, s_tupL, s_tupT, s_one, s_many, s_set, s_set0, s_imI, s_imB, s_imN, s_imT, s_nx, s_rt, s_ex, s_t0, s_t1, s_l0, s_l1, s_asD, s_keyI, s_optS, s_seqL, s_seqT, s_lvD, s_isi7, s_isN1, s_isN2, s_isN3, s_isN4, s_isN5, isNil, asO, s_i1, s_i2, s_i3, s_i4, s_i5, s_i6, eqd_int, eqd_bl, true_and, and_true, decide_eq_true_eq, if_true, ite_true, ite_false, Bool.not_eq_true', decide_eq_false_iff_not, Bool.false_eq_true, Bool.not_false, Bool.not_true, not_true_eq_false, Bool.true_eq_false]
    rw [zip_I]
    refine ⟨by rw [List.length_map, List.length_zip]; unfold LIM; omega, goLC_of (g := fun p : Int × Int => .tup [.int p.1, .int p.2]) (xs := a.zip r) (f := fun p => .int (p.1 * p.2)) (fun p hp R S q => ?_) ?_⟩
    · have := List.of_mem_zip (a := p.1) (b := p.2) hp
      simp only [wpS, wpE, List.getD_cons_zero, List.getD_cons_succ, List.set_cons_zero, List.set_cons_succ, List.length_map, List.length_cons, List.length_nil, wipeD, cmpI, s_asI, s_asB, s_asL, s_asT, s_asS, s_lvI, s_lvB, s_lvL, s_lvT, s_lvN, s_lvS, s_lvX, s_add, s_sub, s_mul, s_fdiv, s_mod, s_pow, s_lenL, s_lenT, s_abs, s_min, s_max, s_sum, s_any, s_all, s_intI, s_intB, s_list, s_listT, s_tupL, s_tupT, s_one, s_many, s_set, s_set0, s_imI, s_imB, s_imN, s_imT, s_nx, s_rt, s_ex, s_t0, s_t1, s_l0, s_l1, s_asD, s_keyI, s_optS, s_seqL, s_seqT, s_lvD, s_isi7, s_isN1, s_isN2, s_isN3, s_isN4, s_isN5, isNil, asO, s_i1, s_i2, s_i3, s_i4, s_i5, s_i6, eqd_int, eqd_bl, true_and, and_true, decide_eq_true_eq, if_true, ite_true, ite_false, Bool.not_eq_true', decide_eq_false_iff_not, Bool.false_eq_true, Bool.not_false, Bool.not_true, not_true_eq_false, Bool.true_eq_false]
      exact ⟨hm a ha _ this.1 _ this.2, q⟩
    · have e : (a.zip r).map (fun p => D.int (p.1 * p.2)) = (List.zipWith (· * ·) a r).map D.int := by
        rw [← List.map_uncurry_zip_eq_zipWith, List.map_map]; rfl
      rw [e]
      simp only [wpS, wpE, List.getD_cons_zero, List.getD_cons_succ, List.set_cons_zero, List.set_cons_succ, List.length_map, List.length_cons, List.length_nil, wipeD, cmpI, s_asI, s_asB, s_asL, s_asT, s_asS, s_lvI, s_lvB, s_lvL, s_lvT, s_lvN, s_lvS, s_lvX, s_add, s_sub, s_mul, s_fdiv, s_mod, s_pow, s_lenL, s_lenT, s_abs, s_min, s_max, s_sum, s_any, s_all, s_intI, s_intB, s_list, s_listT, s_tupL, s_tupT, s_one, s_many, s_set, s_set0, s_imI, s_imB, s_imN, s_imT, s_nx, s_rt, s_ex, s_t0, s_t1, s_l0, s_l1, s_asD, s_keyI, s_optS, s_seqL, s_seqT, s_lvD, s_isi7, s_isN1, s_isN2, s_isN3, s_isN4, s_isN5, isNil, asO, s_i1, s_i2, s_i3, s_i4, s_i5, s_i6, eqd_int, eqd_bl, true_and, and_true, decide_eq_true_eq, if_true, ite_true, ite_false, Bool.not_eq_true', decide_eq_false_iff_not, Bool.false_eq_true, Bool.not_false, Bool.not_true, not_true_eq_false, Bool.true_eq_false]
      exact q
  · have e : A.map (fun a => D.int (dot a r)) = (mv A r).map D.int := by unfold mv; rw [List.map_map]; rfl
    rw [e]
    exact hq
def sem__law_good : FSem := fun ds Q _ => ∃ (m : Nat) (A B : List (List Int)) (r : List Int), ds = [LL A, LL B, LI r] ∧ 1 ≤ m ∧ m ≤ 5 ∧ SqM m A ∧ SqM m B ∧ r.length = m ∧ BdM 136 A ∧ BdM 136 B ∧ Bd 168 r ∧ Q (.bl true)
theorem wp__law_good {Ω : Str → FSem} (h1 : Ω "moved" = sem_moved) (h2 : Ω "_law_moved" = sem__law_moved) (h3 : Ω "_law_same" = sem__law_same) (h4 : Ω "behind" = sem_behind) (h5 : Ω "_law_through" = sem__law_through) (h6 : Ω "_law_same_rows" = sem__law_same_rows) :
    ∀ ds Q X, ds.length = P__law_good.length → sem__law_good ds Q X → wpS Ω ci0 ir__law_good (holesTo ds N__law_good.length) (poOf Q X) := by
  rintro ds Q X _ ⟨m, A, B, r, rfl, m1, m5, sA, sB, hr, bA, bB, br, hq⟩
  show wpS Ω _ ir__law_good [LL A, LL B, LI r, .hole, .hole] (poOf Q X)
  have tA := sA.tab m1 m5
  have tB := sB.tab m1 m5
  have l7 : ∀ {C}, SqM m C → ∀ a ∈ C, a.length ≤ 7 := fun {C} h a ha => by rw [h.2 a ha]; omega
  have ok : ∀ {C r k l}, BdM k C → Bd l r → k + l ≤ 2 ^ 20 → ∀ a ∈ C, ∀ x ∈ a, ∀ y ∈ r, IntMulOk x y := fun {C r k l} h h' hk a ha => mul_ok (h a ha) h' hk
  have use_mv : ∀ {C : List (List Int)} {s : List Int} {k l : Nat} {Q' X' : D → Prop}, SqM m C → BdM k C → Bd l s → k + l ≤ 2 ^ 20 → s.length = m → Q' (LI (mv C s)) → sem_moved [LL C, LI s] Q' X' := fun {C s k l Q' X'} sC bC bs hk hs q =>
    ⟨C, s, rfl, fun n => absurd (sC.tab m1 m5) n, fun _ n => absurd (hs.trans sC.1.symm) n, fun _ _ => ⟨ok bC bs hk, q⟩⟩
  have okAB : ∀ a ∈ A, ∀ b ∈ B, ∀ x ∈ a, ∀ y ∈ b, IntMulOk x y := fun a ha b hb => mul_ok (bA a ha) (bB b hb) (by decide)
  have use_be : ∀ {Q' X' : D → Prop}, Q' (LL (mulM A B)) → sem_behind [LL A, LL B] Q' X' := fun {Q' X'} q => ⟨A, B, rfl, fun n => absurd tA n, fun _ n => absurd tB n, fun _ _ n => absurd (sA.1.trans sB.1.symm) n, fun _ _ _ => ⟨okAB, q⟩⟩
  have use_th : ∀ {Q' X' : D → Prop}, Q' (LL (mulM A B)) → sem__law_through [LL A, LL B] Q' X' := fun {Q' X'} q => ⟨A, B, rfl, by rw [sB.1]; omega, by rw [sB.1]; omega, by rw [sA.1]; omega, fun a ha => by rw [sA.2 a ha, sB.1], fun b hb => by rw [sB.2 b hb, sB.1], okAB, q⟩
  have sP := mul_sq sA sB
  have bP := mul_bd bA (l7 sA) bB
  have use_sr : ∀ {Q' X' : D → Prop}, Q' (.bl true) → sem__law_same_rows [LL (mulM A B), LL (mulM A B)] Q' X' := fun {Q' X'} q => ⟨_, rfl, by rw [sP.1]; unfold LIM; omega, fun r hr => by rw [sP.2 r hr]; unfold LIM; omega, q⟩
  have bB1 := mv_bd bB (l7 sB) br
  have lB1 : (mv B r).length = m := by unfold mv; rw [List.length_map]; exact sB.1
  unfold ir__law_good
  simp only [wpS, wpE, List.getD_cons_zero, List.getD_cons_succ, List.set_cons_zero, List.set_cons_succ, List.length_map, List.length_cons, List.length_nil, wipeD, cmpI, s_asI, s_asB, s_asL, s_asT, s_asS, s_lvI, s_lvB, s_lvL, s_lvT, s_lvN, s_lvS, s_lvX, s_add, s_sub, s_mul, s_fdiv, s_mod, s_pow, s_lenL, s_lenT, s_abs, s_min, s_max, s_sum, s_any, s_all, s_intI, s_intB, s_list, s_listT, s_tupL, s_tupT, s_one, s_many, s_set, s_set0, s_imI, s_imB, s_imN, s_imT, s_nx, s_rt, s_ex, s_t0, s_t1, s_l0, s_l1, s_asD, s_keyI, s_optS, s_seqL, s_seqT, s_lvD, s_isi7, s_isN1, s_isN2, s_isN3, s_isN4, s_isN5, isNil, asO, s_i1, s_i2, s_i3, s_i4, s_i5, s_i6, eqd_int, eqd_bl, true_and, and_true, decide_eq_true_eq, if_true, ite_true, ite_false, Bool.not_eq_true', decide_eq_false_iff_not, Bool.false_eq_true, Bool.not_false, Bool.not_true, not_true_eq_false, Bool.true_eq_false, h1, h2, h3, h4, h5, h6]
  refine use_mv sA bA br (by decide) hr ⟨A, r, rfl, by rw [sA.1]; omega, by omega, ok bA br (by decide), ⟨_, rfl, ?_, ?_⟩⟩
  · unfold mv; rw [List.length_map, sA.1]; unfold LIM; omega
  simp only [wpS, wpE, List.getD_cons_zero, List.getD_cons_succ, List.set_cons_zero, List.set_cons_succ, List.length_map, List.length_cons, List.length_nil, wipeD, cmpI, s_asI, s_asB, s_asL, s_asT, s_asS, s_lvI, s_lvB, s_lvL, s_lvT, s_lvN, s_lvS, s_lvX, s_add, s_sub, s_mul, s_fdiv, s_mod, s_pow, s_lenL, s_lenT, s_abs, s_min, s_max, s_sum, s_any, s_all, s_intI, s_intB, s_list, s_listT, s_tupL, s_tupT, s_one, s_many, s_set, s_set0, s_imI, s_imB, s_imN, s_imT, s_nx, s_rt, s_ex, s_t0, s_t1, s_l0, s_l1, s_asD, s_keyI, s_optS, s_seqL, s_seqT, s_lvD, s_isi7, s_isN1, s_isN2, s_isN3, s_isN4, s_isN5, isNil, asO, s_i1, s_i2, s_i3, s_i4, s_i5, s_i6, eqd_int, eqd_bl, true_and, and_true, decide_eq_true_eq, if_true, ite_true, ite_false, Bool.not_eq_true', decide_eq_false_iff_not, Bool.false_eq_true, Bool.not_false, Bool.not_true, not_true_eq_false, Bool.true_eq_false]
  refine use_be ?_
  refine ⟨trivial, use_th ?_⟩
  refine use_sr ?_
  simp only [wpS, wpE, List.getD_cons_zero, List.getD_cons_succ, List.set_cons_zero, List.set_cons_succ, List.length_map, List.length_cons, List.length_nil, wipeD, cmpI, s_asI, s_asB, s_asL, s_asT, s_asS, s_lvI, s_lvB, s_lvL, s_lvT, s_lvN, s_lvS, s_lvX, s_add, s_sub, s_mul, s_fdiv, s_mod, s_pow, s_lenL, s_lenT, s_abs, s_min, s_max, s_sum, s_any, s_all, s_intI, s_intB, s_list, s_listT, s_tupL, s_tupT, s_one, s_many, s_set, s_set0, s_imI, s_imB, s_imN, s_imT, s_nx, s_rt, s_ex, s_t0, s_t1, s_l0, s_l1, s_asD, s_keyI, s_optS, s_seqL, s_seqT, s_lvD, s_isi7, s_isN1, s_isN2, s_isN3, s_isN4, s_isN5, isNil, asO, s_i1, s_i2, s_i3, s_i4, s_i5, s_i6, eqd_int, eqd_bl, true_and, and_true, decide_eq_true_eq, if_true, ite_true, ite_false, Bool.not_eq_true', decide_eq_false_iff_not, Bool.false_eq_true, Bool.not_false, Bool.not_true, not_true_eq_false, Bool.true_eq_false]
  refine use_mv sP bP br (by decide) hr ?_
  refine use_mv sB bB br (by decide) hr (use_mv sA bA bB1 (by decide) lB1 ?_)
  refine eqd_LI.mpr ?_
  rw [decide_eq_true (mv_mul sA sB hr)]
  simp only [wpS, wpE, List.getD_cons_zero, List.getD_cons_succ, List.set_cons_zero, List.set_cons_succ, List.length_map, List.length_cons, List.length_nil, wipeD, cmpI, s_asI, s_asB, s_asL, s_asT, s_asS, s_lvI, s_lvB, s_lvL, s_lvT, s_lvN, s_lvS, s_lvX, s_add, s_sub, s_mul, s_fdiv, s_mod, s_pow, s_lenL, s_lenT, s_abs, s_min, s_max, s_sum, s_any, s_all, s_intI, s_intB, s_list, s_listT, s_tupL, s_tupT, s_one, s_many, s_set, s_set0, s_imI, s_imB, s_imN, s_imT, s_nx, s_rt, s_ex, s_t0, s_t1, s_l0, s_l1, s_asD, s_keyI, s_optS, s_seqL, s_seqT, s_lvD, s_isi7, s_isN1, s_isN2, s_isN3, s_isN4, s_isN5, isNil, asO, s_i1, s_i2, s_i3, s_i4, s_i5, s_i6, eqd_int, eqd_bl, true_and, and_true, decide_eq_true_eq, if_true, ite_true, ite_false, Bool.not_eq_true', decide_eq_false_iff_not, Bool.false_eq_true, Bool.not_false, Bool.not_true, not_true_eq_false, Bool.true_eq_false, lstsOf_LL]
  refine ⟨fun xs hx => ?_, by rw [sP.1]; unfold LIM; omega, use_mv sA bA br (by decide) hr ?_⟩
  · obtain ⟨r, hr, rfl⟩ := List.mem_map.mp hx
    rw [List.length_map, sP.2 r hr]; unfold LIM; omega
  simp only [wpS, wpE, List.getD_cons_zero, List.getD_cons_succ, List.set_cons_zero, List.set_cons_succ, List.length_map, List.length_cons, List.length_nil, wipeD, cmpI, s_asI, s_asB, s_asL, s_asT, s_asS, s_lvI, s_lvB, s_lvL, s_lvT, s_lvN, s_lvS, s_lvX, s_add, s_sub, s_mul, s_fdiv, s_mod, s_pow, s_lenL, s_lenT, s_abs, s_min, s_max, s_sum, s_any, s_all, s_intI, s_intB, s_list, s_listT, s_tupL, s_tupT, s_one, s_many, s_set, s_set0, s_imI, s_imB, s_imN, s_imT, s_nx, s_rt, s_ex, s_t0, s_t1, s_l0, s_l1, s_asD, s_keyI, s_optS, s_seqL, s_seqT, s_lvD, s_isi7, s_isN1, s_isN2, s_isN3, s_isN4, s_isN5, isNil, asO, s_i1, s_i2, s_i3, s_i4, s_i5, s_i6, eqd_int, eqd_bl, true_and, and_true, decide_eq_true_eq, if_true, ite_true, ite_false, Bool.not_eq_true', decide_eq_false_iff_not, Bool.false_eq_true, Bool.not_false, Bool.not_true, not_true_eq_false, Bool.true_eq_false]
  refine ⟨by unfold mv; rw [List.length_map, sA.1]; unfold LIM; omega, use_be ?_⟩
  refine use_th ?_
  exact use_sr hq
/-! ### the law -/
def pre (ns : List Int) : Prop := ns.length ≤ 63
theorem pre_of {ns : List Int} (h : ns.length ≤ 63) (_ : ∀ z ∈ ns, Builtin.Int.intBits z ≤ 1048576) : pre ns := h
def sem_law : FSem := fun ds Q _ => ∃ ns : List Int, ds = [LI ns] ∧ pre ns ∧ Q (.bl true)
structure H3 (α β γ : Type) where
  a : α
  b : β
  c : γ
  deriving DecidableEq
section
variable {α β γ : Type} [DecidableEq α] [Dt α] [DecidableEq β] [Dt β] [DecidableEq γ] [Dt γ]
instance : Dt (H3 α β γ) where
  d x := .lst [Dt.d x.a, Dt.d x.b, Dt.d x.c]
  pd x := .list [Dt.pd x.a, Dt.pd x.b, Dt.pd x.c]
  py x := by
    show (D.pys [Dt.d x.a, Dt.d x.b, Dt.d x.c]).map PyData.list = _
    unfold D.pys D.pys D.pys D.pys
    rw [Dt.py x.a, Dt.py x.b, Dt.py x.c]; rfl
  ok x := by
    show ((Dt.pd x.a).canLay0 && ((Dt.pd x.b).canLay0 && ((Dt.pd x.c).canLay0 && true))) = true
    rw [Dt.ok x.a, Dt.ok x.b, Dt.ok x.c]; rfl
  eqv x y := by
    rw [PyData.eqv, PyData.eqvAll, PyData.eqvAll, PyData.eqvAll, PyData.eqvAll, Dt.eqv x.a y.a, Dt.eqv x.b y.b, Dt.eqv x.c y.c, Bool.and_true, ← Bool.decide_and, ← Bool.decide_and]
    exact decide_eq_decide.mpr (by cases x; cases y; simp)
  dep := max (Dt.dep α) (max (Dt.dep β) (Dt.dep γ)) + 1
  dep_le x := by
    show max (PyData.depth (Dt.pd x.a)) (max (PyData.depth (Dt.pd x.b)) (max (PyData.depth (Dt.pd x.c)) 0)) + 1 ≤ _
    have h1 := Dt.dep_le x.a
    have h2 := Dt.dep_le x.b
    have h3 := Dt.dep_le x.c
    omega
end
theorem eqd_3 {a a' b b' : List (List Int)} {c c' : List Int} {K : Bool → Prop} : eqD (.lst [LL a, LL b, LI c]) (.lst [LL a', LL b', LI c']) K ↔ K (decide ((⟨a, b, c⟩ : H3 (List (List Int)) (List (List Int)) (List Int)) = ⟨a', b', c'⟩)) :=
  eqD_dt (α := H3 (List (List Int)) (List (List Int)) (List Int)) (a := ⟨a, b, c⟩) (b := ⟨a', b', c'⟩) (by decide) (K := K)
def unitM (m : Nat) : List (List Int) := (List.range m).map fun k => (List.range m).map fun j => if j = k then 1 else 0
theorem unit_sq (m : Nat) : SqM m (unitM m) := by
  refine ⟨by unfold unitM; simp, fun r hr => ?_⟩
  obtain ⟨k, _, rfl⟩ := List.mem_map.mp hr
  simp
theorem unit_bd (m : Nat) : BdM 136 (unitM m) := fun r hr x hx => by
  obtain ⟨k, _, rfl⟩ := List.mem_map.mp hr
  obtain ⟨j, _, rfl⟩ := List.mem_map.mp hx
  split
  · decide +kernel
  · exact Nat.two_pow_pos _
theorem wp_law {Ω : Str → FSem} (g1 : Ω "_law_cell" = sem__law_cell) (g2 : Ω "_law_table" = sem__law_table) (g3 : Ω "_law_numbers" = sem__law_numbers) (g4 : Ω "_law_good" = sem__law_good) :
    ∀ ds Q X, ds.length = P_law.length → sem_law ds Q X → wpS Ω ci0 ir_law (holesTo ds N_law.length) (poOf Q X) := by
  rintro ds Q X _ ⟨ns, rfl, hns, hq⟩
  show wpS Ω _ ir_law [LI ns, .hole, .hole, .hole, .hole, .hole, .hole, .hole, .hole, .hole] (poOf Q X)
  unfold ir_law
  simp only [wpS, wpE, List.getD_cons_zero, List.getD_cons_succ, List.set_cons_zero, List.set_cons_succ, List.length_map, List.length_cons, List.length_nil, wipeD, cmpI, s_asI, s_asB, s_asL, s_asT, s_asS, s_lvI, s_lvB, s_lvL, s_lvT, s_lvN, s_lvS, s_lvX, s_add, s_sub, s_mul, s_fdiv, s_mod, s_pow, s_lenL, s_lenT, s_abs, s_min, s_max, s_sum, s_any, s_all, s_intI, s_intB, s_list, s_listT, s_tupL, s_tupT, s_one, s_many, s_set, s_set0, s_imI, s_imB, s_imN, s_imT, s_nx, s_rt, s_ex, s_t0, s_t1, s_l0, s_l1, s_asD, s_keyI, s_optS, s_seqL, s_seqT, s_lvD, s_isi7, s_isN1, s_isN2, s_isN3, s_isN4, s_isN5, isNil, asO, s_i1, s_i2, s_i3, s_i4, s_i5, s_i6, eqd_int, eqd_bl, true_and, and_true, decide_eq_true_eq, if_true, ite_true, ite_false, Bool.not_eq_true', decide_eq_false_iff_not, Bool.false_eq_true, Bool.not_false, Bool.not_true, not_true_eq_false, Bool.true_eq_false, g1, g2, g3, g4]
  refine ⟨ns, 0, rfl, ?_⟩
  simp only [wpS, wpE, List.getD_cons_zero, List.getD_cons_succ, List.set_cons_zero, List.set_cons_succ, List.length_map, List.length_cons, List.length_nil, wipeD, cmpI, s_asI, s_asB, s_asL, s_asT, s_asS, s_lvI, s_lvB, s_lvL, s_lvT, s_lvN, s_lvS, s_lvX, s_add, s_sub, s_mul, s_fdiv, s_mod, s_pow, s_lenL, s_lenT, s_abs, s_min, s_max, s_sum, s_any, s_all, s_intI, s_intB, s_list, s_listT, s_tupL, s_tupT, s_one, s_many, s_set, s_set0, s_imI, s_imB, s_imN, s_imT, s_nx, s_rt, s_ex, s_t0, s_t1, s_l0, s_l1, s_asD, s_keyI, s_optS, s_seqL, s_seqT, s_lvD, s_isi7, s_isN1, s_isN2, s_isN3, s_isN4, s_isN5, isNil, asO, s_i1, s_i2, s_i3, s_i4, s_i5, s_i6, eqd_int, eqd_bl, true_and, and_true, decide_eq_true_eq, if_true, ite_true, ite_false, Bool.not_eq_true', decide_eq_false_iff_not, Bool.false_eq_true, Bool.not_false, Bool.not_true, not_true_eq_false, Bool.true_eq_false]
  obtain ⟨M, eM, M1, M5⟩ : ∃ M : Nat, 1 + (lawCell ns 0).fmod 5 = M ∧ 1 ≤ M ∧ M ≤ 5 := by
    have a := fm_nn (lawCell ns 0) (show (0 : Int) < 5 by decide)
    have b := Int.fmod_lt_of_pos (lawCell ns 0) (show (0 : Int) < 5 by decide)
    exact ⟨(1 + (lawCell ns 0).fmod 5).toNat, by omega, by omega, by omega⟩
  rw [eM]
  have mm : M * M ≤ 5 * 5 := Nat.mul_le_mul M5 M5
  refine ⟨by decide, ns, 1, rfl, ns, 3, M, _, rfl, by decide, M1, M5, fun A sA bA => ?_⟩
  simp only [wpS, wpE, List.getD_cons_zero, List.getD_cons_succ, List.set_cons_zero, List.set_cons_succ, List.length_map, List.length_cons, List.length_nil, wipeD, cmpI, s_asI, s_asB, s_asL, s_asT, s_asS, s_lvI, s_lvB, s_lvL, s_lvT, s_lvN, s_lvS, s_lvX, s_add, s_sub, s_mul, s_fdiv, s_mod, s_pow, s_lenL, s_lenT, s_abs, s_min, s_max, s_sum, s_any, s_all, s_intI, s_intB, s_list, s_listT, s_tupL, s_tupT, s_one, s_many, s_set, s_set0, s_imI, s_imB, s_imN, s_imT, s_nx, s_rt, s_ex, s_t0, s_t1, s_l0, s_l1, s_asD, s_keyI, s_optS, s_seqL, s_seqT, s_lvD, s_isi7, s_isN1, s_isN2, s_isN3, s_isN4, s_isN5, isNil, asO, s_i1, s_i2, s_i3, s_i4, s_i5, s_i6, eqd_int, eqd_bl, true_and, and_true, decide_eq_true_eq, if_true, ite_true, ite_false, Bool.not_eq_true', decide_eq_false_iff_not, Bool.false_eq_true, Bool.not_false, Bool.not_true, not_true_eq_false, Bool.true_eq_false]
  refine ⟨mulok_l (by omega), ns, 2, rfl, ns, 3 + M * M, M, lawCell ns 2, by simp, by omega, M1, M5, fun B sB bB => ?_⟩
  simp only [wpS, wpE, List.getD_cons_zero, List.getD_cons_succ, List.set_cons_zero, List.set_cons_succ, List.length_map, List.length_cons, List.length_nil, wipeD, cmpI, s_asI, s_asB, s_asL, s_asT, s_asS, s_lvI, s_lvB, s_lvL, s_lvT, s_lvN, s_lvS, s_lvX, s_add, s_sub, s_mul, s_fdiv, s_mod, s_pow, s_lenL, s_lenT, s_abs, s_min, s_max, s_sum, s_any, s_all, s_intI, s_intB, s_list, s_listT, s_tupL, s_tupT, s_one, s_many, s_set, s_set0, s_imI, s_imB, s_imN, s_imT, s_nx, s_rt, s_ex, s_t0, s_t1, s_l0, s_l1, s_asD, s_keyI, s_optS, s_seqL, s_seqT, s_lvD, s_isi7, s_isN1, s_isN2, s_isN3, s_isN4, s_isN5, isNil, asO, s_i1, s_i2, s_i3, s_i4, s_i5, s_i6, eqd_int, eqd_bl, true_and, and_true, decide_eq_true_eq, if_true, ite_true, ite_false, Bool.not_eq_true', decide_eq_false_iff_not, Bool.false_eq_true, Bool.not_false, Bool.not_true, not_true_eq_false, Bool.true_eq_false]
  refine ⟨⟨by decide, by decide, by decide⟩, ns, 0, rfl, ?_⟩
  simp only [wpS, wpE, List.getD_cons_zero, List.getD_cons_succ, List.set_cons_zero, List.set_cons_succ, List.length_map, List.length_cons, List.length_nil, wipeD, cmpI, s_asI, s_asB, s_asL, s_asT, s_asS, s_lvI, s_lvB, s_lvL, s_lvT, s_lvN, s_lvS, s_lvX, s_add, s_sub, s_mul, s_fdiv, s_mod, s_pow, s_lenL, s_lenT, s_abs, s_min, s_max, s_sum, s_any, s_all, s_intI, s_intB, s_list, s_listT, s_tupL, s_tupT, s_one, s_many, s_set, s_set0, s_imI, s_imB, s_imN, s_imT, s_nx, s_rt, s_ex, s_t0, s_t1, s_l0, s_l1, s_asD, s_keyI, s_optS, s_seqL, s_seqT, s_lvD, s_isi7, s_isN1, s_isN2, s_isN3, s_isN4, s_isN5, isNil, asO, s_i1, s_i2, s_i3, s_i4, s_i5, s_i6, eqd_int, eqd_bl, true_and, and_true, decide_eq_true_eq, if_true, ite_true, ite_false, Bool.not_eq_true', decide_eq_false_iff_not, Bool.false_eq_true, Bool.not_false, Bool.not_true, not_true_eq_false, Bool.true_eq_false]
  refine ⟨divok_small (by decide) (by decide), by decide, ?_⟩
  have c0 := fm_nn ((lawCell ns 0).fdiv 5) (show (0 : Int) < 2 by decide)
  have c1 := Int.fmod_lt_of_pos ((lawCell ns 0).fdiv 5) (show (0 : Int) < 2 by decide)
  generalize ((lawCell ns 0).fdiv 5).fmod 2 = c at c0 c1
  have it : ∀ {K : D → Prop}, (∀ z : Int, 0 ≤ z → z.natAbs < 2 ^ 168 → K (.int z)) → itemD (.lst [.int 9, .int ((10 : Int) ^ Int.toNat 50)]) c K := fun {K} k => by
    refine item_LI (xs := [9, (10 : Int) ^ Int.toNat 50]) c0 (by simpa using c1) ?_
    obtain rfl | rfl : c = 0 ∨ c = 1 := by omega
    · exact k _ (by decide) (by decide +kernel)
    · exact k _ (by decide +kernel) (by decide +kernel)
  refine it fun z z0 z1 => ⟨ns, 7, M, z, rfl, by decide, by omega, z0, ?_⟩
  have br : Bd 168 (lawNums ns 7 M z) := fun x hx => by have := lawNums_bd z0 x hx; omega
  have hr : (lawNums ns 7 M z).length = M := lawNums_len
  generalize lawNums ns 7 M z = r at br hr
  have unit : ∀ (x0 x2 x3 x4 x5 x6 x7 x8 x9 : D) (K : Dat → Prop), K ((unitM M).map fun r => .lst (r.map D.int)) → goLC (Tg.one 7) (fun ρ K => K true)
      (fun ρ K => (List.getD ρ 1 D.hole).live ∧ asI (List.getD ρ 1 D.hole) fun n => small n ∧ (List.range n.toNat).length ≤ LIM ∧
        goLC (Tg.one 6) (fun ρ K => K true) (fun ρ K => (List.getD ρ 6 D.hole).live ∧ (List.getD ρ 7 D.hole).live ∧ eqD (List.getD ρ 6 D.hole) (List.getD ρ 7 D.hole) fun k => K (D.int (if k = true then 1 else 0)))
          (List.set ρ 6 D.hole) (List.map (fun k => D.int (k : Nat)) (List.range n.toNat)) fun ys => K (D.lst ys))
      [x0, D.int M, x2, x3, x4, x5, x6, x7, x8, x9] (List.map (fun k => D.int (k : Nat)) (List.range M)) K := by
    intro x0 x2 x3 x4 x5 x6 x7 x8 x9 K hk
    refine goLC_of (g := fun k : Nat => .int (k : Nat)) (xs := List.range M) (f := fun k => .lst (((List.range M).map fun j => if j = k then (1 : Int) else 0).map D.int)) (fun k hk R S q => ?_) ?_
    · simp only [wpS, wpE, List.getD_cons_zero, List.getD_cons_succ, List.set_cons_zero, List.set_cons_succ, List.length_map, List.length_cons, List.length_nil, wipeD, cmpI, s_asI, s_asB, s_asL, s_asT, s_asS, s_lvI, s_lvB, s_lvL, s_lvT, s_lvN, s_lvS, s_lvX, s_add, s_sub, s_mul, s_fdiv, s_mod, s_pow, s_lenL, s_lenT, s_abs, s_min, s_max, s_sum, s_any, s_all, s_intI, s_intB, s_list, s_listT, s_tupL, s_tupT, s_one, s_many, s_set, s_set0, s_imI, s_imB, s_imN, s_imT, s_nx, s_rt, s_ex, s_t0, s_t1, s_l0, s_l1, s_asD, s_keyI, s_optS, s_seqL, s_seqT, s_lvD, s_isi7, s_isN1, s_isN2, s_isN3, s_isN4, s_isN5, isNil, asO, s_i1, s_i2, s_i3, s_i4, s_i5, s_i6, eqd_int, eqd_bl, true_and, and_true, decide_eq_true_eq, if_true, ite_true, ite_false, Bool.not_eq_true', decide_eq_false_iff_not, Bool.false_eq_true, Bool.not_false, Bool.not_true, not_true_eq_false, Bool.true_eq_false]
      rw [Int.toNat_natCast]
      refine ⟨by unfold small; omega, by rw [List.length_range]; unfold LIM; omega, ?_⟩
      refine goLC_of (g := fun k : Nat => .int (k : Nat)) (xs := List.range M) (f := fun j => .int (if j = k then (1 : Int) else 0)) (fun j hj R S q => ?_) ?_
      · simp only [wpS, wpE, List.getD_cons_zero, List.getD_cons_succ, List.set_cons_zero, List.set_cons_succ, List.length_map, List.length_cons, List.length_nil, wipeD, cmpI, s_asI, s_asB, s_asL, s_asT, s_asS, s_lvI, s_lvB, s_lvL, s_lvT, s_lvN, s_lvS, s_lvX, s_add, s_sub, s_mul, s_fdiv, s_mod, s_pow, s_lenL, s_lenT, s_abs, s_min, s_max, s_sum, s_any, s_all, s_intI, s_intB, s_list, s_listT, s_tupL, s_tupT, s_one, s_many, s_set, s_set0, s_imI, s_imB, s_imN, s_imT, s_nx, s_rt, s_ex, s_t0, s_t1, s_l0, s_l1, s_asD, s_keyI, s_optS, s_seqL, s_seqT, s_lvD, s_isi7, s_isN1, s_isN2, s_isN3, s_isN4, s_isN5, isNil, asO, s_i1, s_i2, s_i3, s_i4, s_i5, s_i6, eqd_int, eqd_bl, true_and, and_true, decide_eq_true_eq, if_true, ite_true, ite_false, Bool.not_eq_true', decide_eq_false_iff_not, Bool.false_eq_true, Bool.not_false, Bool.not_true, not_true_eq_false, Bool.true_eq_false]
        by_cases e : j = k
        · rw [if_pos e] at q
          rw [if_pos (by omega)]
          exact q
        · rw [if_neg e] at q
          rw [if_neg (by omega)]
          exact q
      · rw [List.map_map] at q
        exact q
    · have e : (List.range M).map (fun k => D.lst (((List.range M).map fun j => if j = k then (1 : Int) else 0).map D.int)) = (unitM M).map fun r => .lst (r.map D.int) := by unfold unitM; rw [List.map_map]; rfl
      rw [e]
      exact hk
  have copy : ∀ {C : List (List Int)} {x0 x1 x2 x3 x4 x5 x6 x7 x8 x9 : D} {K : Dat → Prop}, K (C.map fun r => .lst (r.map D.int)) → goLC (Tg.one 9) (fun ρ K => K true) (fun ρ K => (List.getD ρ 9 D.hole).live ∧ bltD (BF.toList true) [List.getD ρ 9 D.hole] fun z => K z)
      [x0, x1, x2, x3, x4, x5, x6, x7, x8, x9] (C.map fun r => .lst (r.map D.int)) K := by
    intro C x0 x1 x2 x3 x4 x5 x6 x7 x8 x9 K hk
    refine goLC_of (g := fun r => .lst (r.map D.int)) (xs := C) (f := fun r => .lst (r.map D.int)) (fun r _ R S q => ?_) hk
    simp only [wpS, wpE, List.getD_cons_zero, List.getD_cons_succ, List.set_cons_zero, List.set_cons_succ, List.length_map, List.length_cons, List.length_nil, wipeD, cmpI, s_asI, s_asB, s_asL, s_asT, s_asS, s_lvI, s_lvB, s_lvL, s_lvT, s_lvN, s_lvS, s_lvX, s_add, s_sub, s_mul, s_fdiv, s_mod, s_pow, s_lenL, s_lenT, s_abs, s_min, s_max, s_sum, s_any, s_all, s_intI, s_intB, s_list, s_listT, s_tupL, s_tupT, s_one, s_many, s_set, s_set0, s_imI, s_imB, s_imN, s_imT, s_nx, s_rt, s_ex, s_t0, s_t1, s_l0, s_l1, s_asD, s_keyI, s_optS, s_seqL, s_seqT, s_lvD, s_isi7, s_isN1, s_isN2, s_isN3, s_isN4, s_isN5, isNil, asO, s_i1, s_i2, s_i3, s_i4, s_i5, s_i6, eqd_int, eqd_bl, true_and, and_true, decide_eq_true_eq, if_true, ite_true, ite_false, Bool.not_eq_true', decide_eq_false_iff_not, Bool.false_eq_true, Bool.not_false, Bool.not_true, not_true_eq_false, Bool.true_eq_false]
    exact ⟨fun _ => imms_map _, q⟩
  have sm : small (M : Int) := by unfold small; omega
  rw [Int.toNat_natCast]
  refine ⟨sm, by rw [List.length_range]; unfold LIM; omega, unit _ _ _ _ _ _ _ _ _ _ ?_⟩
  have sU := unit_sq M
  have bU := unit_bd M
  refine ⟨by rw [sA.1]; unfold LIM; omega, copy ?_⟩
  simp only [wpS, wpE, List.getD_cons_zero, List.getD_cons_succ, List.set_cons_zero, List.set_cons_succ, List.length_map, List.length_cons, List.length_nil, wipeD, cmpI, s_asI, s_asB, s_asL, s_asT, s_asS, s_lvI, s_lvB, s_lvL, s_lvT, s_lvN, s_lvS, s_lvX, s_add, s_sub, s_mul, s_fdiv, s_mod, s_pow, s_lenL, s_lenT, s_abs, s_min, s_max, s_sum, s_any, s_all, s_intI, s_intB, s_list, s_listT, s_tupL, s_tupT, s_one, s_many, s_set, s_set0, s_imI, s_imB, s_imN, s_imT, s_nx, s_rt, s_ex, s_t0, s_t1, s_l0, s_l1, s_asD, s_keyI, s_optS, s_seqL, s_seqT, s_lvD, s_isi7, s_isN1, s_isN2, s_isN3, s_isN4, s_isN5, isNil, asO, s_i1, s_i2, s_i3, s_i4, s_i5, s_i6, eqd_int, eqd_bl, true_and, and_true, decide_eq_true_eq, if_true, ite_true, ite_false, Bool.not_eq_true', decide_eq_false_iff_not, Bool.false_eq_true, Bool.not_false, Bool.not_true, not_true_eq_false, Bool.true_eq_false]
  refine ⟨by rw [sB.1]; unfold LIM; omega, copy ?_⟩
  have good : ∀ {C E : List (List Int)} {Q' X' : D → Prop}, SqM M C → SqM M E → BdM 136 C → BdM 136 E → Q' (.bl true) → sem__law_good [LL C, LL E, LI r] Q' X' := fun {C E Q' X'} sC sE bC bE q => ⟨M, C, E, r, rfl, M1, M5, sC, sE, hr, bC, bE, br, q⟩
  refine ⟨fun _ => imms_map _, good sA sB bA bB ?_⟩
  simp only [wpS, wpE, List.getD_cons_zero, List.getD_cons_succ, List.set_cons_zero, List.set_cons_succ, List.length_map, List.length_cons, List.length_nil, wipeD, cmpI, s_asI, s_asB, s_asL, s_asT, s_asS, s_lvI, s_lvB, s_lvL, s_lvT, s_lvN, s_lvS, s_lvX, s_add, s_sub, s_mul, s_fdiv, s_mod, s_pow, s_lenL, s_lenT, s_abs, s_min, s_max, s_sum, s_any, s_all, s_intI, s_intB, s_list, s_listT, s_tupL, s_tupT, s_one, s_many, s_set, s_set0, s_imI, s_imB, s_imN, s_imT, s_nx, s_rt, s_ex, s_t0, s_t1, s_l0, s_l1, s_asD, s_keyI, s_optS, s_seqL, s_seqT, s_lvD, s_isi7, s_isN1, s_isN2, s_isN3, s_isN4, s_isN5, isNil, asO, s_i1, s_i2, s_i3, s_i4, s_i5, s_i6, eqd_int, eqd_bl, true_and, and_true, decide_eq_true_eq, if_true, ite_true, ite_false, Bool.not_eq_true', decide_eq_false_iff_not, Bool.false_eq_true, Bool.not_false, Bool.not_true, not_true_eq_false, Bool.true_eq_false]
  refine good sB sA bB bA ?_
  simp only [wpS, wpE, List.getD_cons_zero, List.getD_cons_succ, List.set_cons_zero, List.set_cons_succ, List.length_map, List.length_cons, List.length_nil, wipeD, cmpI, s_asI, s_asB, s_asL, s_asT, s_asS, s_lvI, s_lvB, s_lvL, s_lvT, s_lvN, s_lvS, s_lvX, s_add, s_sub, s_mul, s_fdiv, s_mod, s_pow, s_lenL, s_lenT, s_abs, s_min, s_max, s_sum, s_any, s_all, s_intI, s_intB, s_list, s_listT, s_tupL, s_tupT, s_one, s_many, s_set, s_set0, s_imI, s_imB, s_imN, s_imT, s_nx, s_rt, s_ex, s_t0, s_t1, s_l0, s_l1, s_asD, s_keyI, s_optS, s_seqL, s_seqT, s_lvD, s_isi7, s_isN1, s_isN2, s_isN3, s_isN4, s_isN5, isNil, asO, s_i1, s_i2, s_i3, s_i4, s_i5, s_i6, eqd_int, eqd_bl, true_and, and_true, decide_eq_true_eq, if_true, ite_true, ite_false, Bool.not_eq_true', decide_eq_false_iff_not, Bool.false_eq_true, Bool.not_false, Bool.not_true, not_true_eq_false, Bool.true_eq_false]
  refine good sA sA bA bA ?_
  simp only [wpS, wpE, List.getD_cons_zero, List.getD_cons_succ, List.set_cons_zero, List.set_cons_succ, List.length_map, List.length_cons, List.length_nil, wipeD, cmpI, s_asI, s_asB, s_asL, s_asT, s_asS, s_lvI, s_lvB, s_lvL, s_lvT, s_lvN, s_lvS, s_lvX, s_add, s_sub, s_mul, s_fdiv, s_mod, s_pow, s_lenL, s_lenT, s_abs, s_min, s_max, s_sum, s_any, s_all, s_intI, s_intB, s_list, s_listT, s_tupL, s_tupT, s_one, s_many, s_set, s_set0, s_imI, s_imB, s_imN, s_imT, s_nx, s_rt, s_ex, s_t0, s_t1, s_l0, s_l1, s_asD, s_keyI, s_optS, s_seqL, s_seqT, s_lvD, s_isi7, s_isN1, s_isN2, s_isN3, s_isN4, s_isN5, isNil, asO, s_i1, s_i2, s_i3, s_i4, s_i5, s_i6, eqd_int, eqd_bl, true_and, and_true, decide_eq_true_eq, if_true, ite_true, ite_false, Bool.not_eq_true', decide_eq_false_iff_not, Bool.false_eq_true, Bool.not_false, Bool.not_true, not_true_eq_false, Bool.true_eq_false]
  refine good sU sA bU bA ?_
  simp only [wpS, wpE, List.getD_cons_zero, List.getD_cons_succ, List.set_cons_zero, List.set_cons_succ, List.length_map, List.length_cons, List.length_nil, wipeD, cmpI, s_asI, s_asB, s_asL, s_asT, s_asS, s_lvI, s_lvB, s_lvL, s_lvT, s_lvN, s_lvS, s_lvX, s_add, s_sub, s_mul, s_fdiv, s_mod, s_pow, s_lenL, s_lenT, s_abs, s_min, s_max, s_sum, s_any, s_all, s_intI, s_intB, s_list, s_listT, s_tupL, s_tupT, s_one, s_many, s_set, s_set0, s_imI, s_imB, s_imN, s_imT, s_nx, s_rt, s_ex, s_t0, s_t1, s_l0, s_l1, s_asD, s_keyI, s_optS, s_seqL, s_seqT, s_lvD, s_isi7, s_isN1, s_isN2, s_isN3, s_isN4, s_isN5, isNil, asO, s_i1, s_i2, s_i3, s_i4, s_i5, s_i6, eqd_int, eqd_bl, true_and, and_true, decide_eq_true_eq, if_true, ite_true, ite_false, Bool.not_eq_true', decide_eq_false_iff_not, Bool.false_eq_true, Bool.not_false, Bool.not_true, not_true_eq_false, Bool.true_eq_false]
  refine good sA sU bA bU ?_
  simp only [wpS, wpE, List.getD_cons_zero, List.getD_cons_succ, List.set_cons_zero, List.set_cons_succ, List.length_map, List.length_cons, List.length_nil, wipeD, cmpI, s_asI, s_asB, s_asL, s_asT, s_asS, s_lvI, s_lvB, s_lvL, s_lvT, s_lvN, s_lvS, s_lvX, s_add, s_sub, s_mul, s_fdiv, s_mod, s_pow, s_lenL, s_lenT, s_abs, s_min, s_max, s_sum, s_any, s_all, s_intI, s_intB, s_list, s_listT, s_tupL, s_tupT, s_one, s_many, s_set, s_set0, s_imI, s_imB, s_imN, s_imT, s_nx, s_rt, s_ex, s_t0, s_t1, s_l0, s_l1, s_asD, s_keyI, s_optS, s_seqL, s_seqT, s_lvD, s_isi7, s_isN1, s_isN2, s_isN3, s_isN4, s_isN5, isNil, asO, s_i1, s_i2, s_i3, s_i4, s_i5, s_i6, eqd_int, eqd_bl, true_and, and_true, decide_eq_true_eq, if_true, ite_true, ite_false, Bool.not_eq_true', decide_eq_false_iff_not, Bool.false_eq_true, Bool.not_false, Bool.not_true, not_true_eq_false, Bool.true_eq_false]
  refine eqd_3.mpr ?_
  rw [decide_eq_true rfl]
  simp only [wpS, wpE, List.getD_cons_zero, List.getD_cons_succ, List.set_cons_zero, List.set_cons_succ, List.length_map, List.length_cons, List.length_nil, wipeD, cmpI, s_asI, s_asB, s_asL, s_asT, s_asS, s_lvI, s_lvB, s_lvL, s_lvT, s_lvN, s_lvS, s_lvX, s_add, s_sub, s_mul, s_fdiv, s_mod, s_pow, s_lenL, s_lenT, s_abs, s_min, s_max, s_sum, s_any, s_all, s_intI, s_intB, s_list, s_listT, s_tupL, s_tupT, s_one, s_many, s_set, s_set0, s_imI, s_imB, s_imN, s_imT, s_nx, s_rt, s_ex, s_t0, s_t1, s_l0, s_l1, s_asD, s_keyI, s_optS, s_seqL, s_seqT, s_lvD, s_isi7, s_isN1, s_isN2, s_isN3, s_isN4, s_isN5, isNil, asO, s_i1, s_i2, s_i3, s_i4, s_i5, s_i6, eqd_int, eqd_bl, true_and, and_true, decide_eq_true_eq, if_true, ite_true, ite_false, Bool.not_eq_true', decide_eq_false_iff_not, Bool.false_eq_true, Bool.not_false, Bool.not_true, not_true_eq_false, Bool.true_eq_false]
  refine ⟨sm, by rw [List.length_range]; unfold LIM; omega, unit _ _ _ _ _ _ _ _ _ _ ?_⟩
  refine eqd_LL.mpr ?_
  rw [decide_eq_true rfl]
  exact hq
theorem law_true : ∀ ns, pre ns → sem_law [LI ns] (fun d => d = .bl true) (fun _ => False) := fun ns h => ⟨ns, rfl, h, rfl⟩
theorem law_imp {K : PySem.W.Frag} {cls : Str → Option Addr} : ∀ vs H Q E, spLaw pre K vs H Q E → spOf ⟨K, cls⟩ sem_law ⟨1, .deep⟩ vs H Q E := spLaw_sp law_true
end FM.K71

set_option Elab.async false
set_option linter.all false
set_option maxRecDepth 100000
namespace FM.K71
open PySem PySem.Spec PyProof.Rows L2 Lib
def om : List (Str × FSem) := [("_law_cell", sem__law_cell), ("_law_numbers", sem__law_numbers), ("_law_table", sem__law_table), ("look_at_table", sem_look_at_table), ("look_alike", sem_look_alike), ("weighed", sem_weighed), ("moved", sem_moved), ("_law_moved", sem__law_moved), ("_law_whole", sem__law_whole), ("_law_same", sem__law_same), ("columns_of", sem_columns_of), ("behind", sem_behind), ("_law_through", sem__law_through), ("_law_same_rows", sem__law_same_rows), ("_law_good", sem__law_good), ("law", sem_law)]
theorem om__law_cell : omL om "_law_cell" = sem__law_cell := by kernel_rfl
theorem om__law_numbers : omL om "_law_numbers" = sem__law_numbers := by kernel_rfl
theorem om__law_table : omL om "_law_table" = sem__law_table := by kernel_rfl
theorem om_look_at_table : omL om "look_at_table" = sem_look_at_table := by kernel_rfl
theorem om_look_alike : omL om "look_alike" = sem_look_alike := by kernel_rfl
theorem om_weighed : omL om "weighed" = sem_weighed := by kernel_rfl
theorem om_moved : omL om "moved" = sem_moved := by kernel_rfl
theorem om__law_moved : omL om "_law_moved" = sem__law_moved := by kernel_rfl
theorem om__law_whole : omL om "_law_whole" = sem__law_whole := by kernel_rfl
theorem om__law_same : omL om "_law_same" = sem__law_same := by kernel_rfl
theorem om_columns_of : omL om "columns_of" = sem_columns_of := by kernel_rfl
theorem om_behind : omL om "behind" = sem_behind := by kernel_rfl
theorem om__law_through : omL om "_law_through" = sem__law_through := by kernel_rfl
theorem om__law_same_rows : omL om "_law_same_rows" = sem__law_same_rows := by kernel_rfl
theorem om__law_good : omL om "_law_good" = sem__law_good := by kernel_rfl
theorem ok__law_cell {P : Program} {w : World} {K : PySem.W.Frag} {mg : Str → Option Value} {base : Heap} {c : Cfg} (W0 : World0 P w K mg base c ic rz trF glF) {f : Addr} {fd : FuncData} (F : Fun K "_law_cell" "_law_cell" st__law_cell f fd)  :
    FnOk P w K mg base (L2.CX P w) 1 f fd P__law_cell (spOf c sem__law_cell ⟨2, .deep⟩) :=
  def_ok2 W0 (Ω := omL om) (k := 0) Tab.none' F sc__law_cell (by decide) mt__law_cell ty__law_cell (wp__law_cell)
theorem df__law_cell {P : Program} {w : World} {K : PySem.W.Frag} {mg : Str → Option Value} {base : Heap} {c : Cfg} (W0 : World0 P w K mg base c ic rz trF glF) {f : Addr} {fd : FuncData} (F : Fun K "_law_cell" "_law_cell" st__law_cell f fd) (g : mg "_law_cell" = some (.ref f))  : Df P w K mg base c (omL om) "_law_cell" ⟨2, .deep⟩ 1 :=
  ⟨f, fd, P__law_cell, g, F.kp, F.binds (ps := P__law_cell) fun _ _ _ _ _ _ us hl => match us, hl with | [_, _], _ => rfl, by
    rw [om__law_cell]
    exact ok__law_cell W0 F⟩
theorem ok__law_numbers {P : Program} {w : World} {K : PySem.W.Frag} {mg : Str → Option Value} {base : Heap} {c : Cfg} (W0 : World0 P w K mg base c ic rz trF glF) {f : Addr} {fd : FuncData} (F : Fun K "_law_numbers" "_law_numbers" st__law_numbers f fd)  :
    FnOk P w K mg base (L2.CX P w) 1 f fd P__law_numbers (spOf c sem__law_numbers ⟨4, .deep⟩) :=
  def_ok2 W0 (Ω := omL om) (k := 0) Tab.none' F sc__law_numbers (by decide) mt__law_numbers ty__law_numbers (wp__law_numbers)
theorem df__law_numbers {P : Program} {w : World} {K : PySem.W.Frag} {mg : Str → Option Value} {base : Heap} {c : Cfg} (W0 : World0 P w K mg base c ic rz trF glF) {f : Addr} {fd : FuncData} (F : Fun K "_law_numbers" "_law_numbers" st__law_numbers f fd) (g : mg "_law_numbers" = some (.ref f))  : Df P w K mg base c (omL om) "_law_numbers" ⟨4, .deep⟩ 1 :=
  ⟨f, fd, P__law_numbers, g, F.kp, F.binds (ps := P__law_numbers) fun _ _ _ _ _ _ us hl => match us, hl with | [_, _, _, _], _ => rfl, by
    rw [om__law_numbers]
    exact ok__law_numbers W0 F⟩
theorem ok__law_table {P : Program} {w : World} {K : PySem.W.Frag} {mg : Str → Option Value} {base : Heap} {c : Cfg} (W0 : World0 P w K mg base c ic rz trF glF) {f : Addr} {fd : FuncData} (F : Fun K "_law_table" "_law_table" st__law_table f fd) (h__law_numbers : Df P w K mg base c (omL om) "_law_numbers" ⟨4, .deep⟩ 1) :
    FnOk P w K mg base (L2.CX P w) 2 f fd P__law_table (spOf c sem__law_table ⟨4, .deep⟩) :=
  def_ok2 W0 (Ω := omL om) (k := 1) (h__law_numbers.cons (by decide) Tab.none') F sc__law_table (by decide) mt__law_table ty__law_table (wp__law_table om__law_numbers)
theorem df__law_table {P : Program} {w : World} {K : PySem.W.Frag} {mg : Str → Option Value} {base : Heap} {c : Cfg} (W0 : World0 P w K mg base c ic rz trF glF) {f : Addr} {fd : FuncData} (F : Fun K "_law_table" "_law_table" st__law_table f fd) (g : mg "_law_table" = some (.ref f)) (h__law_numbers : Df P w K mg base c (omL om) "_law_numbers" ⟨4, .deep⟩ 1) : Df P w K mg base c (omL om) "_law_table" ⟨4, .deep⟩ 2 :=
  ⟨f, fd, P__law_table, g, F.kp, F.binds (ps := P__law_table) fun _ _ _ _ _ _ us hl => match us, hl with | [_, _, _, _], _ => rfl, by
    rw [om__law_table]
    exact ok__law_table W0 F h__law_numbers⟩
theorem ok_look_at_table {P : Program} {w : World} {K : PySem.W.Frag} {mg : Str → Option Value} {base : Heap} {c : Cfg} (W0 : World0 P w K mg base c ic rz trF glF) {f : Addr} {fd : FuncData} (F : Fun K "look_at_table" "look_at_table" st_look_at_table f fd)  :
    FnOk P w K mg base (L2.CX P w) 1 f fd P_look_at_table (spOf c sem_look_at_table ⟨1, .deep⟩) :=
  def_ok2 W0 (Ω := omL om) (k := 0) Tab.none' F sc_look_at_table (by decide) mt_look_at_table ty_look_at_table (wp_look_at_table)
theorem df_look_at_table {P : Program} {w : World} {K : PySem.W.Frag} {mg : Str → Option Value} {base : Heap} {c : Cfg} (W0 : World0 P w K mg base c ic rz trF glF) {f : Addr} {fd : FuncData} (F : Fun K "look_at_table" "look_at_table" st_look_at_table f fd) (g : mg "look_at_table" = some (.ref f))  : Df P w K mg base c (omL om) "look_at_table" ⟨1, .deep⟩ 1 :=
  ⟨f, fd, P_look_at_table, g, F.kp, F.binds (ps := P_look_at_table) fun _ _ _ _ _ _ us hl => match us, hl with | [_], _ => rfl, by
    rw [om_look_at_table]
    exact ok_look_at_table W0 F⟩
theorem ok_look_alike {P : Program} {w : World} {K : PySem.W.Frag} {mg : Str → Option Value} {base : Heap} {c : Cfg} (W0 : World0 P w K mg base c ic rz trF glF) {f : Addr} {fd : FuncData} (F : Fun K "look_alike" "look_alike" st_look_alike f fd)  :
    FnOk P w K mg base (L2.CX P w) 1 f fd P_look_alike (spOf c sem_look_alike ⟨2, .deep⟩) :=
  def_ok2 W0 (Ω := omL om) (k := 0) Tab.none' F sc_look_alike (by decide) mt_look_alike ty_look_alike (wp_look_alike)
theorem df_look_alike {P : Program} {w : World} {K : PySem.W.Frag} {mg : Str → Option Value} {base : Heap} {c : Cfg} (W0 : World0 P w K mg base c ic rz trF glF) {f : Addr} {fd : FuncData} (F : Fun K "look_alike" "look_alike" st_look_alike f fd) (g : mg "look_alike" = some (.ref f))  : Df P w K mg base c (omL om) "look_alike" ⟨2, .deep⟩ 1 :=
  ⟨f, fd, P_look_alike, g, F.kp, F.binds (ps := P_look_alike) fun _ _ _ _ _ _ us hl => match us, hl with | [_, _], _ => rfl, by
    rw [om_look_alike]
    exact ok_look_alike W0 F⟩
theorem ok_weighed {P : Program} {w : World} {K : PySem.W.Frag} {mg : Str → Option Value} {base : Heap} {c : Cfg} (W0 : World0 P w K mg base c ic rz trF glF) {f : Addr} {fd : FuncData} (F : Fun K "weighed" "weighed" st_weighed f fd) (h_look_alike : Df P w K mg base c (omL om) "look_alike" ⟨2, .deep⟩ 1) :
    FnOk P w K mg base (L2.CX P w) 2 f fd P_weighed (spOf c sem_weighed ⟨2, .deep⟩) :=
  def_ok2 W0 (Ω := omL om) (k := 1) (h_look_alike.cons (by decide) Tab.none') F sc_weighed (by decide) mt_weighed ty_weighed (wp_weighed om_look_alike)
theorem df_weighed {P : Program} {w : World} {K : PySem.W.Frag} {mg : Str → Option Value} {base : Heap} {c : Cfg} (W0 : World0 P w K mg base c ic rz trF glF) {f : Addr} {fd : FuncData} (F : Fun K "weighed" "weighed" st_weighed f fd) (g : mg "weighed" = some (.ref f)) (h_look_alike : Df P w K mg base c (omL om) "look_alike" ⟨2, .deep⟩ 1) : Df P w K mg base c (omL om) "weighed" ⟨2, .deep⟩ 2 :=
  ⟨f, fd, P_weighed, g, F.kp, F.binds (ps := P_weighed) fun _ _ _ _ _ _ us hl => match us, hl with | [_, _], _ => rfl, by
    rw [om_weighed]
    exact ok_weighed W0 F h_look_alike⟩
theorem ok_moved {P : Program} {w : World} {K : PySem.W.Frag} {mg : Str → Option Value} {base : Heap} {c : Cfg} (W0 : World0 P w K mg base c ic rz trF glF) {f : Addr} {fd : FuncData} (F : Fun K "moved" "moved" st_moved f fd) (h_look_at_table : Df P w K mg base c (omL om) "look_at_table" ⟨1, .deep⟩ 1) (h_weighed : Df P w K mg base c (omL om) "weighed" ⟨2, .deep⟩ 2) :
    FnOk P w K mg base (L2.CX P w) 3 f fd P_moved (spOf c sem_moved ⟨2, .deep⟩) :=
  def_ok2 W0 (Ω := omL om) (k := 2) (h_look_at_table.cons (by decide) (h_weighed.cons (by decide) Tab.none')) F sc_moved (by decide) mt_moved ty_moved (wp_moved om_look_at_table om_weighed)
theorem df_moved {P : Program} {w : World} {K : PySem.W.Frag} {mg : Str → Option Value} {base : Heap} {c : Cfg} (W0 : World0 P w K mg base c ic rz trF glF) {f : Addr} {fd : FuncData} (F : Fun K "moved" "moved" st_moved f fd) (g : mg "moved" = some (.ref f)) (h_look_at_table : Df P w K mg base c (omL om) "look_at_table" ⟨1, .deep⟩ 1) (h_weighed : Df P w K mg base c (omL om) "weighed" ⟨2, .deep⟩ 2) : Df P w K mg base c (omL om) "moved" ⟨2, .deep⟩ 3 :=
  ⟨f, fd, P_moved, g, F.kp, F.binds (ps := P_moved) fun _ _ _ _ _ _ us hl => match us, hl with | [_, _], _ => rfl, by
    rw [om_moved]
    exact ok_moved W0 F h_look_at_table h_weighed⟩
theorem ok__law_moved {P : Program} {w : World} {K : PySem.W.Frag} {mg : Str → Option Value} {base : Heap} {c : Cfg} (W0 : World0 P w K mg base c ic rz trF glF) {f : Addr} {fd : FuncData} (F : Fun K "_law_moved" "_law_moved" st__law_moved f fd)  :
    FnOk P w K mg base (L2.CX P w) 1 f fd P__law_moved (spOf c sem__law_moved ⟨2, .deep⟩) :=
  def_ok2 W0 (Ω := omL om) (k := 0) Tab.none' F sc__law_moved (by decide) mt__law_moved ty__law_moved (wp__law_moved)
theorem df__law_moved {P : Program} {w : World} {K : PySem.W.Frag} {mg : Str → Option Value} {base : Heap} {c : Cfg} (W0 : World0 P w K mg base c ic rz trF glF) {f : Addr} {fd : FuncData} (F : Fun K "_law_moved" "_law_moved" st__law_moved f fd) (g : mg "_law_moved" = some (.ref f))  : Df P w K mg base c (omL om) "_law_moved" ⟨2, .deep⟩ 1 :=
  ⟨f, fd, P__law_moved, g, F.kp, F.binds (ps := P__law_moved) fun _ _ _ _ _ _ us hl => match us, hl with | [_, _], _ => rfl, by
    rw [om__law_moved]
    exact ok__law_moved W0 F⟩
theorem ok__law_whole {P : Program} {w : World} {K : PySem.W.Frag} {mg : Str → Option Value} {base : Heap} {c : Cfg} (W0 : World0 P w K mg base c ic rz trF glF) {f : Addr} {fd : FuncData} (F : Fun K "_law_whole" "_law_whole" st__law_whole f fd)  :
    FnOk P w K mg base (L2.CX P w) 1 f fd P__law_whole (spOf c sem__law_whole ⟨1, .deep⟩) :=
  def_ok2 W0 (Ω := omL om) (k := 0) Tab.none' F sc__law_whole (by decide) mt__law_whole ty__law_whole (wp__law_whole)
theorem df__law_whole {P : Program} {w : World} {K : PySem.W.Frag} {mg : Str → Option Value} {base : Heap} {c : Cfg} (W0 : World0 P w K mg base c ic rz trF glF) {f : Addr} {fd : FuncData} (F : Fun K "_law_whole" "_law_whole" st__law_whole f fd) (g : mg "_law_whole" = some (.ref f))  : Df P w K mg base c (omL om) "_law_whole" ⟨1, .deep⟩ 1 :=
  ⟨f, fd, P__law_whole, g, F.kp, F.binds (ps := P__law_whole) fun _ _ _ _ _ _ us hl => match us, hl with | [_], _ => rfl, by
    rw [om__law_whole]
    exact ok__law_whole W0 F⟩
theorem ok__law_same {P : Program} {w : World} {K : PySem.W.Frag} {mg : Str → Option Value} {base : Heap} {c : Cfg} (W0 : World0 P w K mg base c ic rz trF glF) {f : Addr} {fd : FuncData} (F : Fun K "_law_same" "_law_same" st__law_same f fd) (h__law_whole : Df P w K mg base c (omL om) "_law_whole" ⟨1, .deep⟩ 1) :
    FnOk P w K mg base (L2.CX P w) 2 f fd P__law_same (spOf c sem__law_same ⟨2, .deep⟩) :=
  def_ok2 W0 (Ω := omL om) (k := 1) (h__law_whole.cons (by decide) Tab.none') F sc__law_same (by decide) mt__law_same ty__law_same (wp__law_same om__law_whole)
theorem df__law_same {P : Program} {w : World} {K : PySem.W.Frag} {mg : Str → Option Value} {base : Heap} {c : Cfg} (W0 : World0 P w K mg base c ic rz trF glF) {f : Addr} {fd : FuncData} (F : Fun K "_law_same" "_law_same" st__law_same f fd) (g : mg "_law_same" = some (.ref f)) (h__law_whole : Df P w K mg base c (omL om) "_law_whole" ⟨1, .deep⟩ 1) : Df P w K mg base c (omL om) "_law_same" ⟨2, .deep⟩ 2 :=
  ⟨f, fd, P__law_same, g, F.kp, F.binds (ps := P__law_same) fun _ _ _ _ _ _ us hl => match us, hl with | [_, _], _ => rfl, by
    rw [om__law_same]
    exact ok__law_same W0 F h__law_whole⟩
theorem ok_columns_of {P : Program} {w : World} {K : PySem.W.Frag} {mg : Str → Option Value} {base : Heap} {c : Cfg} (W0 : World0 P w K mg base c ic rz trF glF) {f : Addr} {fd : FuncData} (F : Fun K "columns_of" "columns_of" st_columns_of f fd)  :
    FnOk P w K mg base (L2.CX P w) 1 f fd P_columns_of (spOf c sem_columns_of ⟨2, .deep⟩) :=
  def_ok2 W0 (Ω := omL om) (k := 0) Tab.none' F sc_columns_of (by decide) mt_columns_of ty_columns_of (wp_columns_of)
theorem df_columns_of {P : Program} {w : World} {K : PySem.W.Frag} {mg : Str → Option Value} {base : Heap} {c : Cfg} (W0 : World0 P w K mg base c ic rz trF glF) {f : Addr} {fd : FuncData} (F : Fun K "columns_of" "columns_of" st_columns_of f fd) (g : mg "columns_of" = some (.ref f))  : Df P w K mg base c (omL om) "columns_of" ⟨2, .deep⟩ 1 :=
  ⟨f, fd, P_columns_of, g, F.kp, F.binds (ps := P_columns_of) fun _ _ _ _ _ _ us hl => match us, hl with | [_, _], _ => rfl, by
    rw [om_columns_of]
    exact ok_columns_of W0 F⟩
theorem ok_behind {P : Program} {w : World} {K : PySem.W.Frag} {mg : Str → Option Value} {base : Heap} {c : Cfg} (W0 : World0 P w K mg base c ic rz trF glF) {f : Addr} {fd : FuncData} (F : Fun K "behind" "behind" st_behind f fd) (h_look_at_table : Df P w K mg base c (omL om) "look_at_table" ⟨1, .deep⟩ 1) (h_columns_of : Df P w K mg base c (omL om) "columns_of" ⟨2, .deep⟩ 1) (h_weighed : Df P w K mg base c (omL om) "weighed" ⟨2, .deep⟩ 2) :
    FnOk P w K mg base (L2.CX P w) 3 f fd P_behind (spOf c sem_behind ⟨2, .deep⟩) :=
  def_ok2 W0 (Ω := omL om) (k := 2) (h_look_at_table.cons (by decide) (h_columns_of.cons (by decide) (h_weighed.cons (by decide) Tab.none'))) F sc_behind (by decide) mt_behind ty_behind (wp_behind om_look_at_table om_columns_of om_weighed)
theorem df_behind {P : Program} {w : World} {K : PySem.W.Frag} {mg : Str → Option Value} {base : Heap} {c : Cfg} (W0 : World0 P w K mg base c ic rz trF glF) {f : Addr} {fd : FuncData} (F : Fun K "behind" "behind" st_behind f fd) (g : mg "behind" = some (.ref f)) (h_look_at_table : Df P w K mg base c (omL om) "look_at_table" ⟨1, .deep⟩ 1) (h_columns_of : Df P w K mg base c (omL om) "columns_of" ⟨2, .deep⟩ 1) (h_weighed : Df P w K mg base c (omL om) "weighed" ⟨2, .deep⟩ 2) : Df P w K mg base c (omL om) "behind" ⟨2, .deep⟩ 3 :=
  ⟨f, fd, P_behind, g, F.kp, F.binds (ps := P_behind) fun _ _ _ _ _ _ us hl => match us, hl with | [_, _], _ => rfl, by
    rw [om_behind]
    exact ok_behind W0 F h_look_at_table h_columns_of h_weighed⟩
theorem ok__law_through {P : Program} {w : World} {K : PySem.W.Frag} {mg : Str → Option Value} {base : Heap} {c : Cfg} (W0 : World0 P w K mg base c ic rz trF glF) {f : Addr} {fd : FuncData} (F : Fun K "_law_through" "_law_through" st__law_through f fd)  :
    FnOk P w K mg base (L2.CX P w) 1 f fd P__law_through (spOf c sem__law_through ⟨2, .deep⟩) :=
  def_ok2 W0 (Ω := omL om) (k := 0) Tab.none' F sc__law_through (by decide) mt__law_through ty__law_through (wp__law_through)
theorem df__law_through {P : Program} {w : World} {K : PySem.W.Frag} {mg : Str → Option Value} {base : Heap} {c : Cfg} (W0 : World0 P w K mg base c ic rz trF glF) {f : Addr} {fd : FuncData} (F : Fun K "_law_through" "_law_through" st__law_through f fd) (g : mg "_law_through" = some (.ref f))  : Df P w K mg base c (omL om) "_law_through" ⟨2, .deep⟩ 1 :=
  ⟨f, fd, P__law_through, g, F.kp, F.binds (ps := P__law_through) fun _ _ _ _ _ _ us hl => match us, hl with | [_, _], _ => rfl, by
    rw [om__law_through]
    exact ok__law_through W0 F⟩
theorem ok__law_same_rows {P : Program} {w : World} {K : PySem.W.Frag} {mg : Str → Option Value} {base : Heap} {c : Cfg} (W0 : World0 P w K mg base c ic rz trF glF) {f : Addr} {fd : FuncData} (F : Fun K "_law_same_rows" "_law_same_rows" st__law_same_rows f fd) (h__law_same : Df P w K mg base c (omL om) "_law_same" ⟨2, .deep⟩ 2) :
    FnOk P w K mg base (L2.CX P w) 3 f fd P__law_same_rows (spOf c sem__law_same_rows ⟨2, .deep⟩) :=
  def_ok2 W0 (Ω := omL om) (k := 2) (h__law_same.cons (by decide) Tab.none') F sc__law_same_rows (by decide) mt__law_same_rows ty__law_same_rows (wp__law_same_rows om__law_same)
theorem df__law_same_rows {P : Program} {w : World} {K : PySem.W.Frag} {mg : Str → Option Value} {base : Heap} {c : Cfg} (W0 : World0 P w K mg base c ic rz trF glF) {f : Addr} {fd : FuncData} (F : Fun K "_law_same_rows" "_law_same_rows" st__law_same_rows f fd) (g : mg "_law_same_rows" = some (.ref f)) (h__law_same : Df P w K mg base c (omL om) "_law_same" ⟨2, .deep⟩ 2) : Df P w K mg base c (omL om) "_law_same_rows" ⟨2, .deep⟩ 3 :=
  ⟨f, fd, P__law_same_rows, g, F.kp, F.binds (ps := P__law_same_rows) fun _ _ _ _ _ _ us hl => match us, hl with | [_, _], _ => rfl, by
    rw [om__law_same_rows]
    exact ok__law_same_rows W0 F h__law_same⟩
theorem ok__law_good {P : Program} {w : World} {K : PySem.W.Frag} {mg : Str → Option Value} {base : Heap} {c : Cfg} (W0 : World0 P w K mg base c ic rz trF glF) {f : Addr} {fd : FuncData} (F : Fun K "_law_good" "_law_good" st__law_good f fd) (h_moved : Df P w K mg base c (omL om) "moved" ⟨2, .deep⟩ 3) (h__law_moved : Df P w K mg base c (omL om) "_law_moved" ⟨2, .deep⟩ 1) (h__law_same : Df P w K mg base c (omL om) "_law_same" ⟨2, .deep⟩ 2) (h_behind : Df P w K mg base c (omL om) "behind" ⟨2, .deep⟩ 3) (h__law_through : Df P w K mg base c (omL om) "_law_through" ⟨2, .deep⟩ 1) (h__law_same_rows : Df P w K mg base c (omL om) "_law_same_rows" ⟨2, .deep⟩ 3) :
    FnOk P w K mg base (L2.CX P w) 4 f fd P__law_good (spOf c sem__law_good ⟨3, .deep⟩) :=
  def_ok2 W0 (Ω := omL om) (k := 3) (h_moved.cons (by decide) (h__law_moved.cons (by decide) (h__law_same.cons (by decide) (h_behind.cons (by decide) (h__law_through.cons (by decide) (h__law_same_rows.cons (by decide) Tab.none')))))) F sc__law_good (by decide) mt__law_good ty__law_good (wp__law_good om_moved om__law_moved om__law_same om_behind om__law_through om__law_same_rows)
theorem df__law_good {P : Program} {w : World} {K : PySem.W.Frag} {mg : Str → Option Value} {base : Heap} {c : Cfg} (W0 : World0 P w K mg base c ic rz trF glF) {f : Addr} {fd : FuncData} (F : Fun K "_law_good" "_law_good" st__law_good f fd) (g : mg "_law_good" = some (.ref f)) (h_moved : Df P w K mg base c (omL om) "moved" ⟨2, .deep⟩ 3) (h__law_moved : Df P w K mg base c (omL om) "_law_moved" ⟨2, .deep⟩ 1) (h__law_same : Df P w K mg base c (omL om) "_law_same" ⟨2, .deep⟩ 2) (h_behind : Df P w K mg base c (omL om) "behind" ⟨2, .deep⟩ 3) (h__law_through : Df P w K mg base c (omL om) "_law_through" ⟨2, .deep⟩ 1) (h__law_same_rows : Df P w K mg base c (omL om) "_law_same_rows" ⟨2, .deep⟩ 3) : Df P w K mg base c (omL om) "_law_good" ⟨3, .deep⟩ 4 :=
  ⟨f, fd, P__law_good, g, F.kp, F.binds (ps := P__law_good) fun _ _ _ _ _ _ us hl => match us, hl with | [_, _, _], _ => rfl, by
    rw [om__law_good]
    exact ok__law_good W0 F h_moved h__law_moved h__law_same h_behind h__law_through h__law_same_rows⟩
theorem ok_law {P : Program} {w : World} {K : PySem.W.Frag} {mg : Str → Option Value} {base : Heap} {c : Cfg} (W0 : World0 P w K mg base c ic rz trF glF) {f : Addr} {fd : FuncData} (F : Fun K "law" "law" st_law f fd) (h__law_cell : Df P w K mg base c (omL om) "_law_cell" ⟨2, .deep⟩ 1) (h__law_table : Df P w K mg base c (omL om) "_law_table" ⟨4, .deep⟩ 2) (h__law_numbers : Df P w K mg base c (omL om) "_law_numbers" ⟨4, .deep⟩ 1) (h__law_good : Df P w K mg base c (omL om) "_law_good" ⟨3, .deep⟩ 4) :
    FnOk P w K mg base (L2.CX P w) 5 f fd P_law (spOf c sem_law ⟨1, .deep⟩) :=
  def_ok2 W0 (Ω := omL om) (k := 4) (h__law_cell.cons (by decide) (h__law_table.cons (by decide) (h__law_numbers.cons (by decide) (h__law_good.cons (by decide) Tab.none')))) F sc_law (by decide) mt_law ty_law (wp_law om__law_cell om__law_table om__law_numbers om__law_good)
theorem all_mk {l : PySem.W.OpenLaw} {w : World} {K : PySem.W.Frag} {h : Heap} {mg : Str → Option Value} {fa : Addr} (X : K.In h) (G : h.Ns mainGlobals mg) (hfa : mg "law" = some (.ref fa))
    {f0 : Addr} {od0 an0 : Option Addr} {sl0 : Array (Option Value)} {oc0 kV0 dc0 pm0 cd0 ct0 : Value}
    {f1 : Addr} {od1 an1 : Option Addr} {sl1 : Array (Option Value)} {oc1 kV1 dc1 pm1 cd1 ct1 : Value}
    {f2 : Addr} {od2 an2 : Option Addr} {sl2 : Array (Option Value)} {oc2 kV2 dc2 pm2 cd2 ct2 : Value}
    {f3 : Addr} {od3 an3 : Option Addr} {sl3 : Array (Option Value)} {oc3 kV3 dc3 pm3 cd3 ct3 : Value}
    {f4 : Addr} {od4 an4 : Option Addr} {sl4 : Array (Option Value)} {oc4 kV4 dc4 pm4 cd4 ct4 : Value}
    {f5 : Addr} {od5 an5 : Option Addr} {sl5 : Array (Option Value)} {oc5 kV5 dc5 pm5 cd5 ct5 : Value}
    {f6 : Addr} {od6 an6 : Option Addr} {sl6 : Array (Option Value)} {oc6 kV6 dc6 pm6 cd6 ct6 : Value}
    {f7 : Addr} {od7 an7 : Option Addr} {sl7 : Array (Option Value)} {oc7 kV7 dc7 pm7 cd7 ct7 : Value}
    {f8 : Addr} {od8 an8 : Option Addr} {sl8 : Array (Option Value)} {oc8 kV8 dc8 pm8 cd8 ct8 : Value}
    {f9 : Addr} {od9 an9 : Option Addr} {sl9 : Array (Option Value)} {oc9 kV9 dc9 pm9 cd9 ct9 : Value}
    {f10 : Addr} {od10 an10 : Option Addr} {sl10 : Array (Option Value)} {oc10 kV10 dc10 pm10 cd10 ct10 : Value}
    {f11 : Addr} {od11 an11 : Option Addr} {sl11 : Array (Option Value)} {oc11 kV11 dc11 pm11 cd11 ct11 : Value}
    {f12 : Addr} {od12 an12 : Option Addr} {sl12 : Array (Option Value)} {oc12 kV12 dc12 pm12 cd12 ct12 : Value}
    {f13 : Addr} {od13 an13 : Option Addr} {sl13 : Array (Option Value)} {oc13 kV13 dc13 pm13 cd13 ct13 : Value}
    {f14 : Addr} {od14 an14 : Option Addr} {sl14 : Array (Option Value)} {oc14 kV14 dc14 pm14 cd14 ct14 : Value}
    {f15 : Addr} {od15 an15 : Option Addr} {sl15 : Array (Option Value)} {oc15 kV15 dc15 pm15 cd15 ct15 : Value}
    {C0 : Addr}
    {C1 : Addr}
    {C2 : Addr}
    {gl0t : Tok}
    (a0 : PySem.W.nsIn K mainGlobals "_law_cell" = some (some (.ref f0)))
    (l0 : K.lookup f0 = some ⟨oc0, od0, .func (PySem.W.fnOf "_law_cell" "_law_cell" (defArgs st__law_cell) (defBody st__law_cell) (defScope st__law_cell) .none kV0 dc0 pm0 an0 cd0 ct0), sl0⟩)
    (c0 : PySem.W.codeIn K cd0 "_law_cell" = true)
    (k0 : PySem.W.keepIn K (.ref f0) = true)
    (a1 : PySem.W.nsIn K mainGlobals "_law_numbers" = some (some (.ref f1)))
    (l1 : K.lookup f1 = some ⟨oc1, od1, .func (PySem.W.fnOf "_law_numbers" "_law_numbers" (defArgs st__law_numbers) (defBody st__law_numbers) (defScope st__law_numbers) .none kV1 dc1 pm1 an1 cd1 ct1), sl1⟩)
    (c1 : PySem.W.codeIn K cd1 "_law_numbers" = true)
    (k1 : PySem.W.keepIn K (.ref f1) = true)
    (a2 : PySem.W.nsIn K mainGlobals "_law_table" = some (some (.ref f2)))
    (l2 : K.lookup f2 = some ⟨oc2, od2, .func (PySem.W.fnOf "_law_table" "_law_table" (defArgs st__law_table) (defBody st__law_table) (defScope st__law_table) .none kV2 dc2 pm2 an2 cd2 ct2), sl2⟩)
    (c2 : PySem.W.codeIn K cd2 "_law_table" = true)
    (k2 : PySem.W.keepIn K (.ref f2) = true)
    (a3 : PySem.W.nsIn K mainGlobals "look_at_table" = some (some (.ref f3)))
    (l3 : K.lookup f3 = some ⟨oc3, od3, .func (PySem.W.fnOf "look_at_table" "look_at_table" (defArgs st_look_at_table) (defBody st_look_at_table) (defScope st_look_at_table) .none kV3 dc3 pm3 an3 cd3 ct3), sl3⟩)
    (c3 : PySem.W.codeIn K cd3 "look_at_table" = true)
    (k3 : PySem.W.keepIn K (.ref f3) = true)
    (a4 : PySem.W.nsIn K mainGlobals "look_alike" = some (some (.ref f4)))
    (l4 : K.lookup f4 = some ⟨oc4, od4, .func (PySem.W.fnOf "look_alike" "look_alike" (defArgs st_look_alike) (defBody st_look_alike) (defScope st_look_alike) .none kV4 dc4 pm4 an4 cd4 ct4), sl4⟩)
    (c4 : PySem.W.codeIn K cd4 "look_alike" = true)
    (k4 : PySem.W.keepIn K (.ref f4) = true)
    (a5 : PySem.W.nsIn K mainGlobals "weighed" = some (some (.ref f5)))
    (l5 : K.lookup f5 = some ⟨oc5, od5, .func (PySem.W.fnOf "weighed" "weighed" (defArgs st_weighed) (defBody st_weighed) (defScope st_weighed) .none kV5 dc5 pm5 an5 cd5 ct5), sl5⟩)
    (c5 : PySem.W.codeIn K cd5 "weighed" = true)
    (k5 : PySem.W.keepIn K (.ref f5) = true)
    (a6 : PySem.W.nsIn K mainGlobals "moved" = some (some (.ref f6)))
    (l6 : K.lookup f6 = some ⟨oc6, od6, .func (PySem.W.fnOf "moved" "moved" (defArgs st_moved) (defBody st_moved) (defScope st_moved) .none kV6 dc6 pm6 an6 cd6 ct6), sl6⟩)
    (c6 : PySem.W.codeIn K cd6 "moved" = true)
    (k6 : PySem.W.keepIn K (.ref f6) = true)
    (a7 : PySem.W.nsIn K mainGlobals "_law_moved" = some (some (.ref f7)))
    (l7 : K.lookup f7 = some ⟨oc7, od7, .func (PySem.W.fnOf "_law_moved" "_law_moved" (defArgs st__law_moved) (defBody st__law_moved) (defScope st__law_moved) .none kV7 dc7 pm7 an7 cd7 ct7), sl7⟩)
    (c7 : PySem.W.codeIn K cd7 "_law_moved" = true)
    (k7 : PySem.W.keepIn K (.ref f7) = true)
    (a8 : PySem.W.nsIn K mainGlobals "_law_whole" = some (some (.ref f8)))
    (l8 : K.lookup f8 = some ⟨oc8, od8, .func (PySem.W.fnOf "_law_whole" "_law_whole" (defArgs st__law_whole) (defBody st__law_whole) (defScope st__law_whole) .none kV8 dc8 pm8 an8 cd8 ct8), sl8⟩)
    (c8 : PySem.W.codeIn K cd8 "_law_whole" = true)
    (k8 : PySem.W.keepIn K (.ref f8) = true)
    (a9 : PySem.W.nsIn K mainGlobals "_law_same" = some (some (.ref f9)))
    (l9 : K.lookup f9 = some ⟨oc9, od9, .func (PySem.W.fnOf "_law_same" "_law_same" (defArgs st__law_same) (defBody st__law_same) (defScope st__law_same) .none kV9 dc9 pm9 an9 cd9 ct9), sl9⟩)
    (c9 : PySem.W.codeIn K cd9 "_law_same" = true)
    (k9 : PySem.W.keepIn K (.ref f9) = true)
    (a10 : PySem.W.nsIn K mainGlobals "columns_of" = some (some (.ref f10)))
    (l10 : K.lookup f10 = some ⟨oc10, od10, .func (PySem.W.fnOf "columns_of" "columns_of" (defArgs st_columns_of) (defBody st_columns_of) (defScope st_columns_of) .none kV10 dc10 pm10 an10 cd10 ct10), sl10⟩)
    (c10 : PySem.W.codeIn K cd10 "columns_of" = true)
    (k10 : PySem.W.keepIn K (.ref f10) = true)
    (a11 : PySem.W.nsIn K mainGlobals "behind" = some (some (.ref f11)))
    (l11 : K.lookup f11 = some ⟨oc11, od11, .func (PySem.W.fnOf "behind" "behind" (defArgs st_behind) (defBody st_behind) (defScope st_behind) .none kV11 dc11 pm11 an11 cd11 ct11), sl11⟩)
    (c11 : PySem.W.codeIn K cd11 "behind" = true)
    (k11 : PySem.W.keepIn K (.ref f11) = true)
    (a12 : PySem.W.nsIn K mainGlobals "_law_through" = some (some (.ref f12)))
    (l12 : K.lookup f12 = some ⟨oc12, od12, .func (PySem.W.fnOf "_law_through" "_law_through" (defArgs st__law_through) (defBody st__law_through) (defScope st__law_through) .none kV12 dc12 pm12 an12 cd12 ct12), sl12⟩)
    (c12 : PySem.W.codeIn K cd12 "_law_through" = true)
    (k12 : PySem.W.keepIn K (.ref f12) = true)
    (a13 : PySem.W.nsIn K mainGlobals "_law_same_rows" = some (some (.ref f13)))
    (l13 : K.lookup f13 = some ⟨oc13, od13, .func (PySem.W.fnOf "_law_same_rows" "_law_same_rows" (defArgs st__law_same_rows) (defBody st__law_same_rows) (defScope st__law_same_rows) .none kV13 dc13 pm13 an13 cd13 ct13), sl13⟩)
    (c13 : PySem.W.codeIn K cd13 "_law_same_rows" = true)
    (k13 : PySem.W.keepIn K (.ref f13) = true)
    (a14 : PySem.W.nsIn K mainGlobals "_law_good" = some (some (.ref f14)))
    (l14 : K.lookup f14 = some ⟨oc14, od14, .func (PySem.W.fnOf "_law_good" "_law_good" (defArgs st__law_good) (defBody st__law_good) (defScope st__law_good) .none kV14 dc14 pm14 an14 cd14 ct14), sl14⟩)
    (c14 : PySem.W.codeIn K cd14 "_law_good" = true)
    (k14 : PySem.W.keepIn K (.ref f14) = true)
    (a15 : PySem.W.nsIn K mainGlobals "law" = some (some (.ref f15)))
    (l15 : K.lookup f15 = some ⟨oc15, od15, .func (PySem.W.fnOf "law" "law" (defArgs st_law) (defBody st_law) (defScope st_law) .none kV15 dc15 pm15 an15 cd15 ct15), sl15⟩)
    (c15 : PySem.W.codeIn K cd15 "law" = true)
    (k15 : PySem.W.keepIn K (.ref f15) = true)
    (z0 : PySem.W.nsIn K mainGlobals "len" = some none)
    (z1 : PySem.W.nsIn K mainGlobals "abs" = some none)
    (z2 : PySem.W.nsIn K mainGlobals "min" = some none)
    (z3 : PySem.W.nsIn K mainGlobals "max" = some none)
    (z4 : PySem.W.nsIn K mainGlobals "sum" = some none)
    (z5 : PySem.W.nsIn K mainGlobals "any" = some none)
    (z6 : PySem.W.nsIn K mainGlobals "all" = some none)
    (z7 : PySem.W.nsIn K mainGlobals "int" = some none)
    (z8 : PySem.W.nsIn K mainGlobals "str" = some none)
    (z9 : PySem.W.nsIn K mainGlobals "list" = some none)
    (z10 : PySem.W.nsIn K mainGlobals "tuple" = some none)
    (z11 : PySem.W.nsIn K mainGlobals "range" = some none)
    (z12 : PySem.W.nsIn K mainGlobals "zip" = some none)
    (z13 : PySem.W.nsIn K mainGlobals "enumerate" = some none)
    (z14 : PySem.W.nsIn K mainGlobals "reversed" = some none)
    (z15 : PySem.W.nsIn K mainGlobals "isinstance" = some none)
    (z16 : PySem.W.nsIn K mainGlobals "sorted" = some none)
    (z17 : PySem.W.nsIn K mainGlobals "dict" = some none)
    (z18 : PySem.W.nsIn K mainGlobals "set" = some none)
    (z19 : PySem.W.nsIn K mainGlobals "bool" = some none)
    (z20 : PySem.W.nsIn K mainGlobals "ValueError" = some none)
    (r0 : PySem.W.nsIn K mainGlobals "BadRow" = some (some (.ref C0)))
    (x0 : PySem.W.excIn K C0 [.type "ValueError", .type "Exception", .type "BaseException", .type "object"] "ValueError.__new__" = true)
    (y0 : PySem.W.keepIn K (.ref C0) = true)
    (s0 : PySem.W.subIn K (.ref C0) (.type "BaseException") = some true)
    (t0 : PySem.W.typeIn K (.ref C0) = some (.type "type"))
    (r1 : PySem.W.nsIn K mainGlobals "BadTable" = some (some (.ref C1)))
    (x1 : PySem.W.excIn K C1 [.type "ValueError", .type "Exception", .type "BaseException", .type "object"] "ValueError.__new__" = true)
    (y1 : PySem.W.keepIn K (.ref C1) = true)
    (s1 : PySem.W.subIn K (.ref C1) (.type "BaseException") = some true)
    (t1 : PySem.W.typeIn K (.ref C1) = some (.type "type"))
    (r2 : PySem.W.nsIn K mainGlobals "NotAlike" = some (some (.ref C2)))
    (x2 : PySem.W.excIn K C2 [.type "ValueError", .type "Exception", .type "BaseException", .type "object"] "ValueError.__new__" = true)
    (y2 : PySem.W.keepIn K (.ref C2) = true)
    (s2 : PySem.W.subIn K (.ref C2) (.type "BaseException") = some true)
    (t2 : PySem.W.typeIn K (.ref C2) = some (.type "type"))
    (gl0 : PySem.W.nsIn K mainGlobals "WAYS" = some (some (.int 5 gl0t))) :
    ∃ fd : FuncData, (∀ (s : Shared) (v : Value), BindsTo s fd ⟨[v], []⟩ [("script", v)]) ∧ ∀ base : Heap, K.In base → base.Ns mainGlobals mg → FnOk l.prog w K mg base (L2.CX l.prog w) 5 fa fd ["script"] (spLaw pre K) := by
  have e := hfa.symm.trans (PySem.W.mg_of X G a15)
  cases e
  have W0 : ∀ base : Heap, World0 l.prog w K mg base ⟨K, fun x => List.lookup x [(("BadRow" : Str), C0), (("BadTable" : Str), C1), (("NotAlike" : Str), C2)]⟩ ic rz trF glF := fun base => {
    gl := fun x n hx => by
      have hx : List.lookup x [(("WAYS" : Str), (5 : Int))] = some n := hx
      rw [List.lookup_cons] at hx
      split at hx
      · rename_i he
        obtain rfl := beq_iff_eq.mp he
        cases hx
        exact ⟨_, PySem.W.mg_of X G gl0⟩
      cases hx
    k := rfl
    rz := fun x hx => by
      have hx := List.contains_iff_mem.mp (show (["BadRow", "BadTable", "NotAlike"] : List Str).contains x = true from hx)
      rcases List.mem_cons.mp hx with rfl | hx
      · exact ⟨C0, _, _, _, _, by rfl, PySem.W.mg_of X G r0, PySem.F.excBase_ValueError, x0, y0, s0, t0⟩
      rcases List.mem_cons.mp hx with rfl | hx
      · exact ⟨C1, _, _, _, _, by rfl, PySem.W.mg_of X G r1, PySem.F.excBase_ValueError, x1, y1, s1, t1⟩
      rcases List.mem_cons.mp hx with rfl | hx
      · exact ⟨C2, _, _, _, _, by rfl, PySem.W.mg_of X G r2, PySem.F.excBase_ValueError, x2, y2, s2, t2⟩
      cases hx
    kt := fun T hT => by
      have hT := List.contains_iff_mem.mp (show ([] : List Str).contains T = true from hT)
      cases hT
    tr := fun z => nomatch z
    bt := List.forall_mem_cons.mpr ⟨PySem.W.mg_none_of X G z0, List.forall_mem_cons.mpr ⟨PySem.W.mg_none_of X G z1, List.forall_mem_cons.mpr ⟨PySem.W.mg_none_of X G z2, List.forall_mem_cons.mpr ⟨PySem.W.mg_none_of X G z3, List.forall_mem_cons.mpr ⟨PySem.W.mg_none_of X G z4, List.forall_mem_cons.mpr ⟨PySem.W.mg_none_of X G z5, List.forall_mem_cons.mpr ⟨PySem.W.mg_none_of X G z6, List.forall_mem_cons.mpr ⟨PySem.W.mg_none_of X G z7, List.forall_mem_cons.mpr ⟨PySem.W.mg_none_of X G z8, List.forall_mem_cons.mpr ⟨PySem.W.mg_none_of X G z9, List.forall_mem_cons.mpr ⟨PySem.W.mg_none_of X G z10, List.forall_mem_cons.mpr ⟨PySem.W.mg_none_of X G z11, List.forall_mem_cons.mpr ⟨PySem.W.mg_none_of X G z12, List.forall_mem_cons.mpr ⟨PySem.W.mg_none_of X G z13, List.forall_mem_cons.mpr ⟨PySem.W.mg_none_of X G z14, List.forall_mem_cons.mpr ⟨PySem.W.mg_none_of X G z15, List.forall_mem_cons.mpr ⟨PySem.W.mg_none_of X G z16, List.forall_mem_cons.mpr ⟨PySem.W.mg_none_of X G z17, List.forall_mem_cons.mpr ⟨PySem.W.mg_none_of X G z18, List.forall_mem_cons.mpr ⟨PySem.W.mg_none_of X G z19, List.forall_mem_cons.mpr ⟨PySem.W.mg_none_of X G z20, List.forall_mem_nil _⟩⟩⟩⟩⟩⟩⟩⟩⟩⟩⟩⟩⟩⟩⟩⟩⟩⟩⟩⟩⟩ }
  have F0 := fun_mk (st := st__law_cell) l0 c0 k0
  have F1 := fun_mk (st := st__law_numbers) l1 c1 k1
  have F2 := fun_mk (st := st__law_table) l2 c2 k2
  have F3 := fun_mk (st := st_look_at_table) l3 c3 k3
  have F4 := fun_mk (st := st_look_alike) l4 c4 k4
  have F5 := fun_mk (st := st_weighed) l5 c5 k5
  have F6 := fun_mk (st := st_moved) l6 c6 k6
  have F7 := fun_mk (st := st__law_moved) l7 c7 k7
  have F8 := fun_mk (st := st__law_whole) l8 c8 k8
  have F9 := fun_mk (st := st__law_same) l9 c9 k9
  have F10 := fun_mk (st := st_columns_of) l10 c10 k10
  have F11 := fun_mk (st := st_behind) l11 c11 k11
  have F12 := fun_mk (st := st__law_through) l12 c12 k12
  have F13 := fun_mk (st := st__law_same_rows) l13 c13 k13
  have F14 := fun_mk (st := st__law_good) l14 c14 k14
  have F15 := fun_mk (st := st_law) l15 c15 k15
  refine ⟨PySem.W.fnOf "law" "law" (defArgs st_law) (defBody st_law) (defScope st_law) .none kV15 dc15 pm15 an15 cd15 ct15, fun s v => .of_eq rfl, fun base _ _ => ?_⟩
  have d__law_cell := df__law_cell (W0 base) F0 (PySem.W.mg_of X G a0)
  have d__law_numbers := df__law_numbers (W0 base) F1 (PySem.W.mg_of X G a1)
  have d__law_table := df__law_table (W0 base) F2 (PySem.W.mg_of X G a2) d__law_numbers
  have d_look_at_table := df_look_at_table (W0 base) F3 (PySem.W.mg_of X G a3)
  have d_look_alike := df_look_alike (W0 base) F4 (PySem.W.mg_of X G a4)
  have d_weighed := df_weighed (W0 base) F5 (PySem.W.mg_of X G a5) d_look_alike
  have d_moved := df_moved (W0 base) F6 (PySem.W.mg_of X G a6) d_look_at_table d_weighed
  have d__law_moved := df__law_moved (W0 base) F7 (PySem.W.mg_of X G a7)
  have d__law_whole := df__law_whole (W0 base) F8 (PySem.W.mg_of X G a8)
  have d__law_same := df__law_same (W0 base) F9 (PySem.W.mg_of X G a9) d__law_whole
  have d_columns_of := df_columns_of (W0 base) F10 (PySem.W.mg_of X G a10)
  have d_behind := df_behind (W0 base) F11 (PySem.W.mg_of X G a11) d_look_at_table d_columns_of d_weighed
  have d__law_through := df__law_through (W0 base) F12 (PySem.W.mg_of X G a12)
  have d__law_same_rows := df__law_same_rows (W0 base) F13 (PySem.W.mg_of X G a13) d__law_same
  have d__law_good := df__law_good (W0 base) F14 (PySem.W.mg_of X G a14) d_moved d__law_moved d__law_same d_behind d__law_through d__law_same_rows
  exact (ok_law (W0 base) F15 d__law_cell d__law_table d__law_numbers d__law_good).imp law_imp
end FM.K71
open PySem PySem.W PyProof.Rows
set_option maxHeartbeats 0 in
theorem PySem.Challenge.cw_flatmeet_k71_rows_moved_holds : PySem.Challenge.rw_flatmeet_k71_rows_moved.Holds := by
  w_on; o_law; k_head; (case hw => w_witness2)
  k_fill
  refine L2.walk_ofB (l := PySem.Challenge.rw_flatmeet_k71_rows_moved) (n := 63) (k := 5) (x := "script") (CX := fun w => L2.CX PySem.Challenge.rw_flatmeet_k71_rows_moved.prog w) (sp := fun w => FM.spLaw FM.K71.pre _) rfl (by decide) rfl ⟨rfl, by decide, by decide⟩ (fun w h Y => PySem.W.kIn_of Y) ?F (fun _ _ a ns hl hb _ hS => ⟨a, ns, rfl, hS, FM.K71.pre_of hl hb, fun _ => rfl⟩) (fun _ _ _ _ _ h => FM.noCX h)
  case F =>
    intro w mg fa h KX G hmg
    refine' FM.K71.all_mk KX G hmg ?a0 ?l0 ?c0 ?k0 ?a1 ?l1 ?c1 ?k1 ?a2 ?l2 ?c2 ?k2 ?a3 ?l3 ?c3 ?k3 ?a4 ?l4 ?c4 ?k4 ?a5 ?l5 ?c5 ?k5 ?a6 ?l6 ?c6 ?k6 ?a7 ?l7 ?c7 ?k7 ?a8 ?l8 ?c8 ?k8 ?a9 ?l9 ?c9 ?k9 ?a10 ?l10 ?c10 ?k10 ?a11 ?l11 ?c11 ?k11 ?a12 ?l12 ?c12 ?k12 ?a13 ?l13 ?c13 ?k13 ?a14 ?l14 ?c14 ?k14 ?a15 ?l15 ?c15 ?k15 ?z0 ?z1 ?z2 ?z3 ?z4 ?z5 ?z6 ?z7 ?z8 ?z9 ?z10 ?z11 ?z12 ?z13 ?z14 ?z15 ?z16 ?z17 ?z18 ?z19 ?z20 ?r0 ?x0 ?y0 ?s0 ?t0 ?r1 ?x1 ?y1 ?s1 ?t1 ?r2 ?x2 ?y2 ?s2 ?t2 ?gl0
    (case a0 => k_is); (case l0 => k_is); (case c0 => k_is); (case k0 => k_is); (case a1 => k_is); (case l1 => k_is); (case c1 => k_is); (case k1 => k_is); (case a2 => k_is); (case l2 => k_is); (case c2 => k_is); (case k2 => k_is); (case a3 => k_is); (case l3 => k_is); (case c3 => k_is); (case k3 => k_is); (case a4 => k_is); (case l4 => k_is); (case c4 => k_is); (case k4 => k_is); (case a5 => k_is); (case l5 => k_is); (case c5 => k_is); (case k5 => k_is); (case a6 => k_is); (case l6 => k_is); (case c6 => k_is); (case k6 => k_is); (case a7 => k_is); (case l7 => k_is); (case c7 => k_is); (case k7 => k_is); (case a8 => k_is); (case l8 => k_is); (case c8 => k_is); (case k8 => k_is); (case a9 => k_is); (case l9 => k_is); (case c9 => k_is); (case k9 => k_is); (case a10 => k_is); (case l10 => k_is); (case c10 => k_is); (case k10 => k_is); (case a11 => k_is); (case l11 => k_is); (case c11 => k_is); (case k11 => k_is); (case a12 => k_is); (case l12 => k_is); (case c12 => k_is); (case k12 => k_is); (case a13 => k_is); (case l13 => k_is); (case c13 => k_is); (case k13 => k_is); (case a14 => k_is); (case l14 => k_is); (case c14 => k_is); (case k14 => k_is); (case a15 => k_is); (case l15 => k_is); (case c15 => k_is); (case k15 => k_is); (case z0 => k_is); (case z1 => k_is); (case z2 => k_is); (case z3 => k_is); (case z4 => k_is); (case z5 => k_is); (case z6 => k_is); (case z7 => k_is); (case z8 => k_is); (case z9 => k_is); (case z10 => k_is); (case z11 => k_is); (case z12 => k_is); (case z13 => k_is); (case z14 => k_is); (case z15 => k_is); (case z16 => k_is); (case z17 => k_is); (case z18 => k_is); (case z19 => k_is); (case z20 => k_is); (case r0 => k_is); (case x0 => k_exc); (case y0 => k_is); (case s0 => k_is); (case t0 => k_is); (case r1 => k_is); (case x1 => k_exc); (case y1 => k_is); (case s1 => k_is); (case t1 => k_is); (case r2 => k_is); (case x2 => k_exc); (case y2 => k_is); (case s2 => k_is); (case t2 => k_is); (case gl0 => k_is)

