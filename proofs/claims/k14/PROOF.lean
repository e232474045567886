import PyProof.Rows.All
import Wide.All
import OpenK.AllK
import Wide.FinOn
import HandS.ForMost
import HandS.Exc
import HandS.Evl
import HandS.Wide
import HandS.Style
import HandS.IsInst
import HandS.Deep
import HandS.CallSlots
import HandS.TupAny
import HandS.Text
import HandS.Words
import HandS.WordsExc
import HandS.Iter
import HandS.List
import HandS.Ends
import PySem.Challenge.RW_nofarther_k14_walls_and_gaps_by_all_four
set_option Elab.async false
set_option linter.all false
set_option maxRecDepth 100000
set_option maxHeartbeats 4000000
namespace DP
open PySem L2 Evl

inductive Kind where
  | lst | kls | tup
  | dct (ks : List Key)
  | dtt (ks : List (List Key))
  | obj (c : Str) (ns : List Str)
  deriving DecidableEq

inductive D where
  | unk | non
  | bl (b : Bool)
  | int (i : Int)
  | str (s : Str)
  | rf (a : Addr)
  | con (o : Bool) (k : Kind) (l : List D)

abbrev D.lst (l : List D) : D := .con false .lst l
abbrev D.own (l : List D) : D := .con true .lst l
abbrev D.tup (l : List D) : D := .con false .tup l

/-- the written part and the module's names -/
structure Gx where
  K : PySem.W.Frag
  mg : Str → Option Value

def CellIs (G : Gx) (M : Hp) : Kind → Addr → List V → Prop
  | .lst, a, xs => M a = some (.lst xs)
  | .kls, a, xs => SqL G.K M a xs
  | .tup, a, xs => M a = some (.tup xs)
  | .dct ks, a, xs => ks.length = xs.length ∧ M a = some (.dK (ks.zip xs))
  | .dtt ks, a, xs => ks.length = xs.length ∧ M a = some (.dT (ks.zip xs))
  | .obj c ns, a, xs => ns.length = xs.length ∧ ∃ C dx, G.mg c = some (.ref C) ∧ M a = some (.ins C dx (ns.zip xs))

def Cell (G : Gx) (B H : Hp) (o : Bool) (k : Kind) (a : Addr) (xs : List V) : Prop :=
  if o = true then CellIs G H k a xs ∧ ∃ ho, H a = some ho else CellIs G B k a xs

def ownF (o : Bool) (a : Addr) (F : List Addr) : List Addr := if o = true then a :: F else F

mutual
def Own (G : Gx) (B H : Hp) : D → V → List Addr → Prop
  | .unk, _, F => F = []
  | .non, v, F => v = .non ∧ F = []
  | .bl b, v, F => v = .bl b ∧ F = []
  | .int i, v, F => v = .int i ∧ F = []
  | .str s, v, F => v = .str s ∧ F = []
  | .rf a, v, F => v = .ref a ∧ F = []
  | .con o k l, v, F => ∃ a xs F', v = .ref a ∧ Owns G B H l xs F' ∧ Cell G B H o k a xs ∧ F = ownF o a F' ∧ (o = false → k ≠ .tup → F' = [])
def Owns (G : Gx) (B H : Hp) : List D → List V → List Addr → Prop
  | [], xs, F => xs = [] ∧ F = []
  | d :: ds, xs, F => ∃ x xs' F1 F2, xs = x :: xs' ∧ F = F1 ++ F2 ∧ Own G B H d x F1 ∧ Owns G B H ds xs' F2
end

theorem CellIs.ex {G : Gx} {M M' : Hp} {k : Kind} {a : Addr} {xs : List V} (h : CellIs G M k a xs) (e : ∀ o, M a = some o → M' a = some o) : CellIs G M' k a xs := by
  cases k with
  | lst => exact e _ h
  | kls =>
    rcases h with (h | ⟨o, h⟩) | h
    · exact .inl (.inl (e _ h))
    · exact .inl (.inr ⟨o, e _ h⟩)
    · exact .inr h
  | tup => exact e _ h
  | dct ks => exact ⟨h.1, e _ h.2⟩
  | dtt ks => exact ⟨h.1, e _ h.2⟩
  | obj c ns => obtain ⟨h1, C, dx, h2, h3⟩ := h; exact ⟨h1, C, dx, h2, e _ h3⟩

mutual
theorem Own.mono {G : Gx} {B B' H H' : Hp} (e : Ex B B') : ∀ {d : D} {v : V} {F : List Addr}, Own G B H d v F → (∀ a ∈ F, ∀ o, H a = some o → H' a = some o) → Own G B' H' d v F
  | .unk, _, _, h, _ => h
  | .non, _, _, h, _ => h
  | .bl _, _, _, h, _ => h
  | .int _, _, _, h, _ => h
  | .str _, _, _, h, _ => h
  | .rf _, _, _, h, _ => h
  | .con o k l, v, F, h, k1 => by
    obtain ⟨a, xs, F', e1, e2, e3, e4, e5⟩ := h
    refine ⟨a, xs, F', e1, Owns.mono e e2 (fun b hb => k1 b ?_), ?_, e4, e5⟩
    · rw [e4]; unfold ownF; split
      · exact List.mem_cons_of_mem _ hb
      · exact hb
    · cases o with
      | true =>
        obtain ⟨c1, ho, c2⟩ := e3
        have ka := k1 a (by rw [e4]; exact List.mem_cons_self)
        exact ⟨c1.ex ka, ho, ka _ c2⟩
      | false => exact CellIs.ex (M := B) e3 (fun o => e a o)
theorem Owns.mono {G : Gx} {B B' H H' : Hp} (e : Ex B B') : ∀ {ds : List D} {xs : List V} {F : List Addr}, Owns G B H ds xs F → (∀ a ∈ F, ∀ o, H a = some o → H' a = some o) → Owns G B' H' ds xs F
  | [], _, _, h, _ => h
  | d :: ds, _, _, h, k1 => by
    obtain ⟨x, xs', F1, F2, e1, e2, e3, e4⟩ := h
    refine ⟨x, xs', F1, F2, e1, e2, Own.mono e e3 (fun a ha => k1 a ?_), Owns.mono e e4 (fun a ha => k1 a ?_)⟩
    · rw [e2]; exact List.mem_append_left _ ha
    · rw [e2]; exact List.mem_append_right _ ha
end

mutual
theorem Own.dom {G : Gx} {B H : Hp} : ∀ {d : D} {v : V} {F : List Addr}, Own G B H d v F → ∀ a ∈ F, ∃ o, H a = some o
  | .unk, _, _, h, a, ha => by have h' : _ = [] := h; rw [h'] at ha; cases ha
  | .non, _, _, h, a, ha => by rw [h.2] at ha; cases ha
  | .bl _, _, _, h, a, ha => by rw [h.2] at ha; cases ha
  | .int _, _, _, h, a, ha => by rw [h.2] at ha; cases ha
  | .str _, _, _, h, a, ha => by rw [h.2] at ha; cases ha
  | .rf _, _, _, h, a, ha => by rw [h.2] at ha; cases ha
  | .con o k l, v, F, h, a, ha => by
    obtain ⟨p, xs, F', e1, e2, e3, e4, e5⟩ := h
    rw [e4] at ha
    cases o with
    | true =>
      obtain ⟨c1, c2⟩ := e3
      rcases List.mem_cons.mp ha with rfl | ha
      · exact c2
      · exact Owns.dom e2 a ha
    | false => exact Owns.dom e2 a ha
theorem Owns.dom {G : Gx} {B H : Hp} : ∀ {ds : List D} {xs : List V} {F : List Addr}, Owns G B H ds xs F → ∀ a ∈ F, ∃ o, H a = some o
  | [], _, _, h, a, ha => by rw [h.2] at ha; cases ha
  | d :: ds, _, _, h, a, ha => by
    obtain ⟨x, xs', F1, F2, e1, e2, e3, e4⟩ := h
    rw [e2] at ha
    rcases List.mem_append.mp ha with ha | ha
    · exact Own.dom e3 a ha
    · exact Owns.dom e4 a ha
end

mutual
def shd : D → Bool
  | .con o _ l => !o && shds l
  | _ => true
def shds : List D → Bool
  | [] => true
  | d :: ds => shd d && shds ds
end
mutual
theorem Own.shd {G : Gx} {B H : Hp} : ∀ {d : D} {v : V} {F : List Addr}, Own G B H d v F → DP.shd d = true → F = []
  | .unk, _, _, h, _ => h
  | .non, _, _, h, _ => h.2
  | .bl _, _, _, h, _ => h.2
  | .int _, _, _, h, _ => h.2
  | .str _, _, _, h, _ => h.2
  | .rf _, _, _, h, _ => h.2
  | .con o k l, v, F, h, hs => by
    obtain ⟨p, xs, F', e1, e2, e3, e4, e5⟩ := h
    simp only [DP.shd, Bool.and_eq_true, Bool.not_eq_true'] at hs
    rw [e4, hs.1]
    exact Owns.shd e2 hs.2
theorem Owns.shd {G : Gx} {B H : Hp} : ∀ {ds : List D} {xs : List V} {F : List Addr}, Owns G B H ds xs F → DP.shds ds = true → F = []
  | [], _, _, h, _ => h.2
  | d :: ds, _, _, h, hs => by
    obtain ⟨x, xs', F1, F2, e1, e2, e3, e4⟩ := h
    simp only [DP.shds, Bool.and_eq_true] at hs
    rw [e2, Own.shd e3 hs.1, Owns.shd e4 hs.2]; rfl
end
mutual
theorem Own.noF {G : Gx} {B H H' : Hp} : ∀ {d : D} {v : V}, Own G B H d v [] → Own G B H' d v []
  | .unk, _, h => h
  | .non, _, h => h
  | .bl _, _, h => h
  | .int _, _, h => h
  | .str _, _, h => h
  | .rf _, _, h => h
  | .con o k l, v, h => by
    obtain ⟨p, xs, F', e1, e2, e3, e4, e5⟩ := h
    cases o with
    | true => exact absurd e4 (by unfold ownF; rw [if_pos rfl]; exact fun z => nomatch z)
    | false =>
      have e4' : F' = [] := by unfold ownF at e4; rw [if_neg Bool.false_ne_true] at e4; exact e4.symm
      subst e4'
      exact ⟨p, xs, [], e1, Owns.noF e2, e3, rfl, e5⟩
theorem Owns.noF {G : Gx} {B H H' : Hp} : ∀ {ds : List D} {xs : List V}, Owns G B H ds xs [] → Owns G B H' ds xs []
  | [], _, h => h
  | d :: ds, _, h => by
    obtain ⟨x, xs', F1, F2, e1, e2, e3, e4⟩ := h
    have := List.append_eq_nil_iff.mp e2.symm
    obtain ⟨rfl, rfl⟩ := this
    exact ⟨x, xs', [], [], e1, rfl, Own.noF e3, Owns.noF e4⟩
end

/-! ### freezing -/
mutual
def frz : D → D
  | .con _ k l => .con false k (frzs l)
  | .unk => .unk
  | .non => .non
  | .bl b => .bl b
  | .int i => .int i
  | .str s => .str s
  | .rf a => .rf a
def frzs : List D → List D
  | [] => []
  | d :: ds => frz d :: frzs ds
end
mutual
theorem Own.frz {G : Gx} {B B' H H' : Hp} (e : Ex B B') : ∀ {d : D} {v : V} {F : List Addr}, Own G B H d v F → (∀ a ∈ F, ∀ o, H a = some o → B' a = some o) → Own G B' H' (frz d) v []
  | .unk, _, _, h, _ => rfl
  | .non, _, _, h, _ => ⟨h.1, rfl⟩
  | .bl _, _, _, h, _ => ⟨h.1, rfl⟩
  | .int _, _, _, h, _ => ⟨h.1, rfl⟩
  | .str _, _, _, h, _ => ⟨h.1, rfl⟩
  | .rf _, _, _, h, _ => ⟨h.1, rfl⟩
  | .con o k l, v, F, h, k1 => by
    obtain ⟨a, xs, F', e1, e2, e3, e4, e5⟩ := h
    refine ⟨a, xs, [], e1, Owns.frz e e2 (fun b hb => k1 b ?_), ?_, rfl, fun _ _ => rfl⟩
    · rw [e4]; unfold ownF; split
      · exact List.mem_cons_of_mem _ hb
      · exact hb
    · cases o with
      | true =>
        obtain ⟨c1, ho, c2⟩ := e3
        have ka := k1 a (by rw [e4]; exact List.mem_cons_self)
        exact CellIs.ex (M := H) c1 ka
      | false => exact CellIs.ex (M := B) e3 (fun o => e a o)
theorem Owns.frz {G : Gx} {B B' H H' : Hp} (e : Ex B B') : ∀ {ds : List D} {xs : List V} {F : List Addr}, Owns G B H ds xs F → (∀ a ∈ F, ∀ o, H a = some o → B' a = some o) → Owns G B' H' (frzs ds) xs []
  | [], _, _, h, _ => ⟨h.1, rfl⟩
  | d :: ds, _, _, h, k1 => by
    obtain ⟨x, xs', F1, F2, e1, e2, e3, e4⟩ := h
    refine ⟨x, xs', [], [], e1, rfl, Own.frz e e3 (fun a ha => k1 a ?_), Owns.frz e e4 (fun a ha => k1 a ?_)⟩
    · rw [e2]; exact List.mem_append_left _ ha
    · rw [e2]; exact List.mem_append_right _ ha
end
theorem frzs_map : ∀ l : List D, frzs l = l.map frz
  | [] => rfl
  | d :: ds => by rw [frzs, frzs_map ds]; rfl
theorem shds_all : ∀ l : List D, shds l = l.all shd
  | [] => rfl
  | d :: ds => by rw [shds, shds_all ds]; rfl
mutual
theorem frz_shd : ∀ {d : D}, shd d = true → frz d = d
  | .con o k l, h => by
    simp only [shd, Bool.and_eq_true, Bool.not_eq_true'] at h
    rw [frz, frzs_shd h.2, h.1]
  | .unk, _ => rfl
  | .non, _ => rfl
  | .bl b, _ => rfl
  | .int i, _ => rfl
  | .str s, _ => rfl
  | .rf a, _ => rfl
theorem frzs_shd : ∀ {ds : List D}, shds ds = true → frzs ds = ds
  | [], _ => rfl
  | d :: ds, h => by
    simp only [shds, Bool.and_eq_true] at h
    rw [frzs, frz_shd h.1, frzs_shd h.2]
end
mutual
theorem shd_frz : ∀ (d : D), shd (frz d) = true
  | .con o k l => by simp only [frz, shd, Bool.not_false, Bool.true_and]; exact shds_frz l
  | .unk => rfl
  | .non => rfl
  | .bl b => rfl
  | .int i => rfl
  | .str s => rfl
  | .rf a => rfl
theorem shds_frz : ∀ (ds : List D), shds (frzs ds) = true
  | [] => rfl
  | d :: ds => by simp only [frzs, shds, shd_frz d, shds_frz ds, Bool.and_self]
end

/-! ### lists of data -/
section
variable {G : Gx} {B H : Hp}
theorem Owns.length : ∀ {ds : List D} {xs : List V} {F : List Addr}, Owns G B H ds xs F → ds.length = xs.length
  | [], _, _, h => by rw [h.1]; rfl
  | d :: ds, _, _, h => by
    obtain ⟨x, xs', F1, F2, e1, e2, e3, e4⟩ := h
    rw [e1, List.length_cons, List.length_cons, Owns.length e4]
theorem Owns.get : ∀ {ds : List D} {xs : List V} {F : List Addr} {i : Nat} {d : D}, Owns G B H ds xs F → ds[i]? = some d → ∃ x F1, xs[i]? = some x ∧ Own G B H d x F1 ∧ F1.Sublist F
  | [], _, _, i, d, h, e => by simp at e
  | d0 :: ds, _, _, i, d, h, e => by
    obtain ⟨x, xs', F1, F2, e1, e2, e3, e4⟩ := h
    subst e1; subst e2
    cases i with
    | zero =>
      simp at e; subst e
      exact ⟨x, F1, rfl, e3, List.sublist_append_left _ _⟩
    | succ i =>
      obtain ⟨y, F3, q1, q2, q3⟩ := Owns.get (i := i) e4 (by simpa using e)
      exact ⟨y, F3, by simpa using q1, q2, q3.trans (List.sublist_append_right _ _)⟩
theorem Owns.append : ∀ {ds es : List D} {xs ys : List V} {F F' : List Addr}, Owns G B H ds xs F → Owns G B H es ys F' → Owns G B H (ds ++ es) (xs ++ ys) (F ++ F')
  | [], es, _, ys, _, F', h, h' => by rw [h.1, h.2]; exact h'
  | d :: ds, es, _, ys, _, F', h, h' => by
    obtain ⟨x, xs', F1, F2, e1, e2, e3, e4⟩ := h
    subst e1; subst e2
    exact ⟨x, xs' ++ ys, F1, F2 ++ F', rfl, by rw [List.append_assoc], e3, Owns.append e4 h'⟩
theorem Owns.one {d : D} {v : V} {F : List Addr} (h : Own G B H d v F) : Owns G B H [d] [v] F := ⟨v, [], F, [], rfl, by simp, h, rfl, rfl⟩
theorem Owns.nil : Owns G B H [] [] [] := ⟨rfl, rfl⟩
theorem Owns.cons {d : D} {v : V} {F F' : List Addr} {ds : List D} {xs : List V} (h : Own G B H d v F) (h' : Owns G B H ds xs F') : Owns G B H (d :: ds) (v :: xs) (F ++ F') := ⟨v, xs, F, F', rfl, rfl, h, h'⟩
theorem Owns.take : ∀ {ds : List D} {xs : List V} {F : List Addr} (n : Nat), Owns G B H ds xs F → ∃ F', Owns G B H (ds.take n) (xs.take n) F' ∧ F'.Sublist F
  | ds, xs, F, 0, h => ⟨[], by simp only [List.take_zero]; exact Owns.nil, List.nil_sublist _⟩
  | [], _, _, n + 1, h => ⟨[], by rw [h.1]; exact Owns.nil, List.nil_sublist _⟩
  | d :: ds, _, _, n + 1, h => by
    obtain ⟨x, xs', F1, F2, e1, e2, e3, e4⟩ := h
    subst e1; subst e2
    obtain ⟨F', q1, q2⟩ := Owns.take n e4
    exact ⟨F1 ++ F', Owns.cons e3 q1, List.Sublist.append (List.Sublist.refl _) q2⟩
theorem Owns.drop : ∀ {ds : List D} {xs : List V} {F : List Addr} (n : Nat), Owns G B H ds xs F → ∃ F', Owns G B H (ds.drop n) (xs.drop n) F' ∧ F'.Sublist F
  | ds, xs, F, 0, h => ⟨F, h, List.Sublist.refl _⟩
  | [], _, _, n + 1, h => ⟨[], by rw [h.1]; exact Owns.nil, List.nil_sublist _⟩
  | d :: ds, _, _, n + 1, h => by
    obtain ⟨x, xs', F1, F2, e1, e2, e3, e4⟩ := h
    subst e1; subst e2
    obtain ⟨F', q1, q2⟩ := Owns.drop n e4
    exact ⟨F', q1, q2.trans (List.sublist_append_right _ _)⟩
/-- one place changed -/
theorem Owns.set : ∀ {ds : List D} {xs : List V} {F F1 : List Addr} {i : Nat} {d : D} {v : V}, Owns G B H ds xs F → Own G B H d v F1 → i < ds.length → F.Nodup → F1.Nodup → (∀ a ∈ F1, a ∉ F) →
    ∃ F', Owns G B H (ds.set i d) (xs.set i v) F' ∧ (∀ a ∈ F', a ∈ F ∨ a ∈ F1) ∧ F'.Nodup
  | [], _, _, _, i, d, v, h, h1, hi, _, _, _ => by simp at hi
  | d0 :: ds, _, _, F1', i, d, v, h, h1, hi, nd, nd1, dj => by
    obtain ⟨x, xs', F1, F2, e1, e2, e3, e4⟩ := h
    subst e1; subst e2
    obtain ⟨n1, n2, n3⟩ := List.nodup_append.mp nd
    cases i with
    | zero =>
      refine ⟨F1' ++ F2, Owns.cons h1 e4, fun a ha => ?_, ?_⟩
      · rcases List.mem_append.mp ha with ha | ha
        · exact .inr ha
        · exact .inl (List.mem_append_right _ ha)
      · exact List.nodup_append.mpr ⟨nd1, n2, fun a ha b hb e => dj a ha (by subst e; exact List.mem_append_right _ hb)⟩
    | succ i =>
      obtain ⟨F', q1, q2, q3⟩ := Owns.set (i := i) e4 h1 (by simpa using hi) n2 nd1 (fun a ha hb => dj a ha (List.mem_append_right _ hb))
      refine ⟨F1 ++ F', Owns.cons e3 q1, fun a ha => ?_, ?_⟩
      · rcases List.mem_append.mp ha with ha | ha
        · exact .inl (List.mem_append_left _ ha)
        · rcases q2 a ha with q | q
          · exact .inl (List.mem_append_right _ q)
          · exact .inr q
      · refine List.nodup_append.mpr ⟨n1, q3, fun a ha b hb e => ?_⟩
        subst e
        rcases q2 a hb with q | q
        · exact n3 a ha a q rfl
        · exact dj a q (List.mem_append_left _ ha)
/-- nothing owned: by places -/
theorem Owns.shared : ∀ {ds : List D} {xs : List V}, ds.length = xs.length → (∀ (i : Nat) d x, ds[i]? = some d → xs[i]? = some x → Own G B H d x []) → Owns G B H ds xs []
  | [], xs, hl, _ => by
    have : xs = [] := by cases xs with | nil => rfl | cons _ _ => simp at hl
    exact ⟨this, rfl⟩
  | d :: ds, [], hl, _ => by simp at hl
  | d :: ds, x :: xs, hl, h => Owns.cons (h 0 d x rfl rfl) (Owns.shared (by simpa using hl) fun i d' x' e1 e2 => h (i + 1) d' x' (by simpa using e1) (by simpa using e2))
theorem Owns.at_shared {ds : List D} {xs : List V} {i : Nat} {d : D} (h : Owns G B H ds xs []) (e : ds[i]? = some d) : ∃ x, xs[i]? = some x ∧ Own G B H d x [] := by
  obtain ⟨x, F1, q1, q2, q3⟩ := h.get e
  rw [List.sublist_nil.mp q3] at q2
  exact ⟨x, q1, q2⟩
theorem Owns.none_of {ds : List D} {xs : List V} {F : List Addr} {i : Nat} (h : Owns G B H ds xs F) (e : ds[i]? = none) : xs[i]? = none := by
  have := h.length
  rw [List.getElem?_eq_none_iff] at e ⊢
  omega
theorem Owns.get_of {ds : List D} {xs : List V} {F : List Addr} {i : Nat} {x : V} (h : Owns G B H ds xs F) (e : xs[i]? = some x) : ∃ d F1, ds[i]? = some d ∧ Own G B H d x F1 ∧ F1.Sublist F := by
  cases q : ds[i]? with
  | none => rw [h.none_of q] at e; cases e
  | some d =>
    obtain ⟨y, F1, q1, q2, q3⟩ := h.get q
    rw [q1] at e; cases e
    exact ⟨d, F1, rfl, q2, q3⟩
/-- what stands in a cell, read -/
theorem Own.cell {o : Bool} {k : Kind} {l : List D} {v : V} {F : List Addr} (h : Own G B H (.con o k l) v F) (e : Ex B H) : ∃ a xs F', v = .ref a ∧ Owns G B H l xs F' ∧ CellIs G H k a xs ∧ F = ownF o a F' := by
  obtain ⟨a, xs, F', e1, e2, e3, e4, e5⟩ := h
  refine ⟨a, xs, F', e1, e2, ?_, e4⟩
  cases o with
  | true => exact e3.1
  | false => exact CellIs.ex (M := B) e3 (fun o => e a o)
theorem CellIs.sqL {a : Addr} {xs : List V} (h : CellIs G H .lst a xs) : SqL G.K H a xs := SqL.of h
theorem CellIs.sqT {a : Addr} {xs : List V} (h : CellIs G H .tup a xs) : SqT G.K H a xs := SqT.of h
theorem sub_ownF {o : Bool} {a : Addr} {F : List Addr} : F.Sublist (ownF o a F) := by
  unfold ownF; split
  · exact List.sublist_cons_self _ _
  · exact List.Sublist.refl _
end
end DP


set_option Elab.async false
set_option linter.all false
set_option maxRecDepth 100000
set_option maxHeartbeats 4000000
namespace DP
open PySem L2 Evl

/-! ### results -/
structure Exc where
  c : Str
  ns : List Str
  fs : List D

inductive R (α : Type) where
  | ok (a : α)
  | exc (e : Exc)
  | stk

def R.bind {α β : Type} (x : R α) (f : α → R β) : R β := match x with
  | .ok a => f a
  | .exc e => .exc e
  | .stk => .stk
instance : Monad R where
  pure := R.ok
  bind := R.bind
@[simp] theorem R.ok_bind {α β : Type} (a : α) (f : α → R β) : (R.ok a >>= f) = f a := rfl
@[simp] theorem R.exc_bind {α β : Type} (e : Exc) (f : α → R β) : ((R.exc e : R α) >>= f) = R.exc e := rfl
@[simp] theorem R.stk_bind {α β : Type} (f : α → R β) : ((R.stk : R α) >>= f) = R.stk := rfl
@[simp] theorem R.pure_eq {α : Type} (a : α) : (pure a : R α) = R.ok a := rfl
theorem R.bind_ok_iff {α β : Type} {x : R α} {f : α → R β} {b : β} : (x >>= f) = .ok b ↔ ∃ a, x = .ok a ∧ f a = .ok b := by
  cases x with
  | ok a => simp
  | exc e => simp
  | stk => simp

/-! ### the state of a def's slots -/
abbrev Env := List D
structure Sta (G : Gx) (B H : Hp) (env : Env) (σ : L2.St) (φ : Nat → List Addr) : Prop where
  ex : Ex B H
  len : env.length = σ.length
  slot : ∀ (i : Nat) d, env[i]? = some d → d = .unk ∨ ∃ v, σ[i]? = some (some v) ∧ Own G B H d v (φ i)
  nd : ∀ i, (φ i).Nodup
  dj : ∀ i j, i ≠ j → ∀ a ∈ φ i, a ∉ φ j
  out : ∀ i, ∀ a ∈ φ i, B a = none
  dom : ∀ i, ∀ a ∈ φ i, ∃ o, H a = some o

/-- from (B, H) to (B', H') by making new things alone -/
structure Gr (B H B' H' : Hp) : Prop where
  hh : Ex H H'
  bb : Ex B B'
  bh : Ex B' H'
  nw : ∀ a o, B' a = some o → B a = none → H a = none
theorem Gr.refl {B H : Hp} (e : Ex B H) : Gr B H B H := ⟨Ex.refl H, Ex.refl B, e, fun a o h1 h2 => by rw [h1] at h2; cases h2⟩
theorem none_back {H H' : Hp} {a : Addr} (e : Ex H H') (h : H' a = none) : H a = none := fresh_back e h
theorem Gr.trans {B H B1 H1 B2 H2 : Hp} (a : Gr B H B1 H1) (b : Gr B1 H1 B2 H2) : Gr B H B2 H2 where
  hh := a.hh.trans b.hh
  bb := a.bb.trans b.bb
  bh := b.bh
  nw := fun c o h1 h2 => by
    cases q : B1 c with
    | some u => exact a.nw c u q h2
    | none => exact none_back a.hh (b.nw c o h1 q)
/-- one new thing, shared -/
theorem Gr.new {B H : Hp} {p : Addr} {o : HO} (e : Ex B H) (hp : H p = none) : Gr B H (upd B p o) (upd H p o) where
  hh := Ex.new hp
  bb := Ex.new (none_back e hp)
  bh := fun a u h => by
    by_cases q : a = p
    · subst q; rw [upd_same] at h ⊢; exact h
    · rw [upd_ne q] at h ⊢; exact e a u h
  nw := fun a u h1 h2 => by
    by_cases q : a = p
    · subst q; exact hp
    · rw [upd_ne q] at h1; rw [h1] at h2; cases h2
/-- one new thing, owned by who made it -/
theorem Gr.newO {B H : Hp} {p : Addr} {o : HO} (e : Ex B H) (hp : H p = none) : Gr B H B (upd H p o) where
  hh := Ex.new hp
  bb := Ex.refl B
  bh := fun a u h => by
    have : a ≠ p := fun q => by subst q; have := e _ _ h; rw [hp] at this; cases this
    rw [upd_ne this]; exact e a u h
  nw := fun a u h1 h2 => by rw [h1] at h2; cases h2
theorem Sta.grow {G : Gx} {B H B' H' : Hp} {env : Env} {σ : L2.St} {φ : Nat → List Addr} (S : Sta G B H env σ φ) (g : Gr B H B' H') : Sta G B' H' env σ φ where
  ex := g.bh
  len := S.len
  slot := fun i d e => by
    rcases S.slot i d e with h | ⟨v, h1, h2⟩
    · exact .inl h
    · exact .inr ⟨v, h1, Own.mono g.bb h2 (fun a _ o => g.hh a o)⟩
  nd := S.nd
  dj := S.dj
  out := fun i a ha => by
    cases q : B' a with
    | none => rfl
    | some o =>
      have h1 := g.nw a o q (S.out i a ha)
      obtain ⟨u, h2⟩ := S.dom i a ha
      rw [h1] at h2; cases h2
  dom := fun i a ha => let ⟨o, h⟩ := S.dom i a ha; ⟨o, g.hh a o h⟩

/-- a value that has come: made new, or (mode some r) a part of slot r -/
structure Rs (G : Gx) (m : Option Nat) (φ : Nat → List Addr) (B H : Hp) (d : D) (v : V) (B' H' : Hp) (F : List Addr) : Prop where
  gr : Gr B H B' H'
  ow : Own G B' H' d v F
  nd : F.Nodup
  out : ∀ a ∈ F, B' a = none
  fr : ∀ a ∈ F, H a = none ∨ ∃ r, m = some r ∧ a ∈ φ r
theorem Rs.pre {G : Gx} {m : Option Nat} {φ : Nat → List Addr} {B H B1 H1 B2 H2 : Hp} {d : D} {v : V} {F : List Addr} (g : Gr B H B1 H1) (r : Rs G m φ B1 H1 d v B2 H2 F) : Rs G m φ B H d v B2 H2 F :=
  ⟨g.trans r.gr, r.ow, r.nd, r.out, fun a ha => (r.fr a ha).imp (none_back g.hh) id⟩
/-- nothing owned -/
theorem Rs.sh {G : Gx} {m : Option Nat} {φ : Nat → List Addr} {B H B' H' : Hp} {d : D} {v : V} (g : Gr B H B' H') (o : Own G B' H' d v []) : Rs G m φ B H d v B' H' [] :=
  ⟨g, o, .nil, fun _ h => (nomatch h), fun _ h => (nomatch h)⟩
theorem Rs.shd {G : Gx} {m m' : Option Nat} {φ φ' : Nat → List Addr} {B H B' H' : Hp} {d : D} {v : V} {F : List Addr} (r : Rs G m φ B H d v B' H' F) (h : shd d = true) : Rs G m' φ' B H d v B' H' [] :=
  .sh r.gr (by have e := r.ow.shd h; rw [e] at r; exact r.ow)
theorem Rs.any {G : Gx} {m : Option Nat} {φ φ' : Nat → List Addr} {B H B' H' : Hp} {d : D} {v : V} {F : List Addr} (r : Rs G none φ' B H d v B' H' F) : Rs G m φ B H d v B' H' F :=
  ⟨r.gr, r.ow, r.nd, r.out, fun a ha => (r.fr a ha).imp id fun ⟨_, q, _⟩ => nomatch q⟩

/-- an exception that has come -/
structure Rx (G : Gx) (B H B' H' : Hp) (e : Exc) (cls : Value) (dx : Option Addr) : Prop where
  gr : Gr B H B' H'
  len : e.ns.length = e.fs.length
  cls : ∃ C, G.mg e.c = some (.ref C) ∧ cls = .ref C
  dict : (e.ns = [] ∧ dx = none) ∨ (e.ns ≠ [] ∧ ∃ d vs, dx = some d ∧ B' d = some (.xd (e.ns.zip vs)) ∧ Owns G B' H' e.fs vs [])
theorem Rx.pre {G : Gx} {B H B1 H1 B2 H2 : Hp} {e : Exc} {cls : Value} {dx : Option Addr} (g : Gr B H B1 H1) (r : Rx G B1 H1 B2 H2 e cls dx) : Rx G B H B2 H2 e cls dx :=
  ⟨g.trans r.gr, r.len, r.cls, r.dict⟩

/-- an expression that changes nothing -/
def Sim (G : Gx) (W : WX) (m : Option Nat) (t : TE) (f : Env → R D) : Prop := ∀ B H env σ φ Q, Sta G B H env σ φ →
  (∀ d, f env = .ok d → ∀ v B' H' F, Rs G m φ B H d v B' H' F → Q v H') →
  (∀ e, f env = .exc e → ∀ cls dx B' H', Rx G B H B' H' e cls dx → W cls dx σ H') →
  f env ≠ .stk → t σ H Q
/-- a test -/
def SimT (G : Gx) (W : WX) (t : TT) (f : Env → R Bool) : Prop := ∀ B H env σ φ Q, Sta G B H env σ φ →
  (∀ b, f env = .ok b → ∀ B' H', Gr B H B' H' → Q b H') →
  (∀ e, f env = .exc e → ∀ cls dx B' H', Rx G B H B' H' e cls dx → W cls dx σ H') →
  f env ≠ .stk → t σ H Q
/-- arguments -/
structure RsA (G : Gx) (B H : Hp) (ds : List D) (vs : List V) (B' H' : Hp) (F : List Addr) : Prop where
  gr : Gr B H B' H'
  ow : Owns G B' H' ds vs F
  nd : F.Nodup
  out : ∀ a ∈ F, B' a = none
  fr : ∀ a ∈ F, H a = none
def SimA (G : Gx) (W : WX) (t : TA) (f : Env → R (List D)) : Prop := ∀ B H env σ φ Q, Sta G B H env σ φ →
  (∀ ds, f env = .ok ds → ∀ vs B' H' F, RsA G B H ds vs B' H' F → Q vs H') →
  (∀ e, f env = .exc e → ∀ cls dx B' H', Rx G B H B' H' e cls dx → W cls dx σ H') →
  f env ≠ .stk → t σ H Q

section
variable {G : Gx} {W : WX} {m m1 m2 : Option Nat} {t ta tb tc : TE} {fa fb fc : Env → R D}

/-- one after another: what lies behind a bind -/
theorem bind_stk {α β : Type} {x : R α} {f : α → R β} (h : (x >>= f) ≠ .stk) : x ≠ .stk := fun e => h (by rw [e]; rfl)

/-! ### names, constants -/
def eP (i : Nat) : Env → R D := fun env => match env[i]? with
  | some .unk => .stk
  | some d => .ok d
  | none => .stk
def toShd (x : R D) : R D := x >>= fun d => if shd d = true then .ok d else .stk
def eV (i : Nat) : Env → R D := fun env => toShd (eP i env)
def eC (d : D) : Env → R D := fun _ => .ok d
theorem eP_ok {i : Nat} {env : Env} {d : D} (h : eP i env = .ok d) : env[i]? = some d ∧ d ≠ .unk := by
  unfold eP at h
  split at h
  · cases h
  · rename_i d' h1 h2
    cases h
    exact ⟨h2, fun z => h1 (by rw [z] at h2; exact z)⟩
  · cases h
theorem eP_noexc {i : Nat} {env : Env} {e : Exc} : eP i env ≠ .exc e := by
  unfold eP; split <;> exact fun h => nomatch h
theorem sim_P {i : Nat} : Sim G W (some i) (tVar i) (eP i) := fun B H env σ φ Q S hok hex hst => by
  cases q : eP i env with
  | stk => exact absurd q hst
  | exc e => exact absurd q eP_noexc
  | ok d =>
    obtain ⟨h1, h2⟩ := eP_ok q
    rcases S.slot i d h1 with h | ⟨v, h3, h4⟩
    · exact absurd h h2
    · exact ⟨v, h3, hok d q v B H (φ i) ⟨Gr.refl S.ex, h4, S.nd i, S.out i, fun a ha => .inr ⟨i, rfl, ha⟩⟩⟩
/-- the value is wholly shared: it may be kept -/
theorem Sim.shd {f : Env → R D} (h : Sim G W m t f) : Sim G W m1 t (fun env => toShd (f env)) := fun B H env σ φ Q S hok hex hst => by
  refine h B H env σ φ Q S (fun d hd v B' H' F r => ?_) (fun e he cls dx B' H' r => hex e (by show toShd (f env) = _; rw [toShd, he]; rfl) cls dx B' H' r) (fun e => hst (by show toShd (f env) = _; rw [toShd, e]; rfl))
  by_cases q : DP.shd d = true
  · exact hok d (by show toShd (f env) = _; rw [toShd, hd, R.ok_bind, if_pos q]) v B' H' [] (r.shd q)
  · exact absurd (show toShd (f env) = .stk by rw [toShd, hd, R.ok_bind, if_neg q]) hst
theorem sim_V {i : Nat} : Sim G W m (tVar i) (eV i) := sim_P.shd
theorem Sim.any {f : Env → R D} (h : Sim G W none t f) : Sim G W m t f := fun B H env σ φ Q S hok hex hst =>
  h B H env σ φ Q S (fun d hd v B' H' F r => hok d hd v B' H' F r.any) hex hst
/-- plain values -/
def scalD : D → V → Prop
  | .non, v => v = .non
  | .bl b, v => v = .bl b
  | .int i, v => v = .int i
  | .str s, v => v = .str s
  | .rf a, v => v = .ref a
  | _, _ => False
theorem own_scal {B H : Hp} {d : D} {v : V} (h : scalD d v) : Own G B H d v [] := by
  cases d with
  | unk => exact h.elim
  | non => exact ⟨h, rfl⟩
  | bl b => exact ⟨h, rfl⟩
  | int i => exact ⟨h, rfl⟩
  | str s => exact ⟨h, rfl⟩
  | rf a => exact ⟨h, rfl⟩
  | con o k l => exact h.elim
theorem sim_C {d : D} {v : V} (h : scalD d v) : Sim G W m (tC v) (eC d) := fun B H env σ φ Q S hok hex hst =>
  hok d rfl v B H [] (.sh (Gr.refl S.ex) (own_scal h))
theorem sim_int {i : Int} : Sim G W m (tC (.int i)) (eC (.int i)) := sim_C rfl
theorem sim_bl {b : Bool} : Sim G W m (tC (.bl b)) (eC (.bl b)) := sim_C rfl
theorem sim_non : Sim G W m (tC .non) (eC .non) := sim_C rfl
theorem sim_str {s : Str} : Sim G W m (tC (.str s)) (eC (.str s)) := sim_C rfl

/-! ### operators by values -/
/-- a two-place operator; what comes is new or a part of the first operand -/
def Op2 (G : Gx) (p : Bool) (r : R2) (g : D → D → R D) : Prop := ∀ B H x y v w F1 F2 Q, Ex B H → Own G B H x v F1 → Own G B H y w F2 → F1.Nodup → (∀ a ∈ F1, B a = none) →
  (∀ d, g x y = .ok d → ∀ u B' H' F, Gr B H B' H' → Own G B' H' d u F → F.Nodup → (∀ a ∈ F, B' a = none) → (∀ a ∈ F, H a = none ∨ (p = true ∧ a ∈ F1)) → Q u H') → (∀ e, g x y ≠ .exc e) → g x y ≠ .stk → r v w H Q
def eOp2 (g : D → D → R D) (fa fb : Env → R D) : Env → R D := fun env => fa env >>= fun x => fb env >>= fun y => g x y
theorem sim_op2G {p : Bool} {r : R2} {g : D → D → R D} (hg : ∀ x y e, g x y ≠ .exc e) (ho : Op2 G p r g) (ha : Sim G W m1 ta fa) (hb : Sim G W m2 tb fb) (hm : p = true → m = m1) : Sim G W m (tOp r ta tb) (eOp2 g fa fb) := fun B H env σ φ Q S hok hex hst => by
  refine ha B H env σ φ _ S (fun x hx v B1 H1 F1 r1 => ?_) (fun e he cls dx B' H' rx => hex e (by show (fa env >>= _) = _; rw [he]; rfl) cls dx B' H' rx) (bind_stk hst)
  have E1 : eOp2 g fa fb env = (fb env >>= fun y => g x y) := by show (fa env >>= _) = _; rw [hx]; rfl
  rw [E1] at hst
  refine hb B1 H1 env σ φ _ (S.grow r1.gr) (fun y hy w B2 H2 F2 r2 => ?_) (fun e he cls dx B' H' rx => hex e (by rw [E1, he]; rfl) cls dx B' H' (rx.pre r1.gr)) (bind_stk hst)
  have E2 : eOp2 g fa fb env = g x y := by rw [E1, hy]; rfl
  rw [hy] at hst
  have o1 : Own G B2 H2 x v F1 := Own.mono r2.gr.bb r1.ow (fun a _ o => r2.gr.hh a o)
  have out1 : ∀ a ∈ F1, B2 a = none := fun a ha' => by
    cases q : B2 a with
    | none => rfl
    | some o =>
      have z := r2.gr.nw a o q (r1.out a ha')
      obtain ⟨u, z2⟩ := r1.ow.dom a ha'
      rw [z] at z2; cases z2
  refine ho B2 H2 x y v w F1 F2 Q r2.gr.bh o1 r2.ow r1.nd out1 (fun d hd u B' H' F g3 o3 n3 out3 f3 => ?_) (hg x y) hst
  refine hok d (by rw [E2, hd]) u B' H' F ⟨(r1.gr.trans r2.gr).trans g3, o3, n3, out3, fun a ha' => ?_⟩
  rcases f3 a ha' with z | ⟨hp, z⟩
  · exact .inl (none_back (r1.gr.hh.trans r2.gr.hh) z)
  · rcases r1.fr a z with z | z
    · exact .inl z
    · rw [hm hp]; exact .inr z
/-- .. whose result is plain (or wholly new) -/
theorem sim_op2 {r : R2} {g : D → D → R D} (hg : ∀ x y e, g x y ≠ .exc e) (ho : Op2 G false r g) (ha : Sim G W m1 ta fa) (hb : Sim G W m2 tb fb) : Sim G W m (tOp r ta tb) (eOp2 g fa fb) := sim_op2G hg ho ha hb (fun z => nomatch z)
/-- .. a part of the first operand -/
theorem sim_ix {r : R2} {g : D → D → R D} (hg : ∀ x y e, g x y ≠ .exc e) (ho : Op2 G true r g) (ha : Sim G W m ta fa) (hb : Sim G W m2 tb fb) : Sim G W m (tOp r ta tb) (eOp2 g fa fb) := sim_op2G hg ho ha hb (fun _ => rfl)
end
end DP


set_option Elab.async false
set_option linter.all false
set_option maxRecDepth 100000
set_option maxHeartbeats 4000000
namespace DP
open PySem L2 Evl

/-! ### operators on data -/
def intOp (C : Int → Int → Bool) (g : Int → Int → D) (x y : D) : R D := match x, y with
  | .int i, .int j => if C i j = true then .ok (g i j) else .stk
  | _, _ => .stk
def cT : Int → Int → Bool := fun _ _ => true
def cMul (i j : Int) : Bool := decide (-(2 ^ 64) < i ∧ i < 2 ^ 64) || decide (-(2 ^ 64) < j ∧ j < 2 ^ 64) || decide (i.natAbs.log2 + j.natAbs.log2 < 1000000)
def cDiv (i j : Int) : Bool := decide (0 < j) && (decide (j < 1073741824) || decide (j.natAbs.log2 < 9000))
def cMod (i j : Int) : Bool := decide (0 < j)
def cPow (i j : Int) : Bool := decide (0 ≤ j) && decide (j ≤ 1000000) && decide (i.natAbs < 2 ^ 64)
def pAdd : D → D → R D
  | .int i, .int j => .ok (.int (i + j))
  | .str x, .str y => if x.length + y.length ≤ sizeLine then .ok (.str (x ++ y)) else .stk
  | .con _ .lst xs, .con _ .lst ys => if xs.length + ys.length ≤ sizeLine ∧ shds xs = true ∧ shds ys = true then .ok (.own (xs ++ ys)) else .stk
  | _, _ => .stk
def pSub : D → D → R D := intOp cT fun i j => .int (i - j)
def pMul : D → D → R D := intOp cMul fun i j => .int (i * j)
def pDiv : D → D → R D := intOp cDiv fun i j => .int (i / j)
def pMod : D → D → R D := intOp cMod fun i j => .int (i % j)
def pPow : D → D → R D := intOp cPow fun i j => .int (i ^ j.toNat)
def pLt : D → D → R D := intOp cT fun i j => .bl (decide (i < j))
def pLe : D → D → R D := intOp cT fun i j => .bl (decide (i ≤ j))
def pGt : D → D → R D := intOp cT fun i j => .bl (decide (j < i))
def pGe : D → D → R D := intOp cT fun i j => .bl (decide (j ≤ i))
mutual
def toPy : D → PyData
  | .bl b => .bool b
  | .int i => .int i
  | .str s => .str s
  | .con _ .lst l => .list (toPys l)
  | .con _ .kls l => .list (toPys l)
  | .con _ .tup l => .tuple (toPys l)
  | _ => .none
def toPys : List D → List PyData
  | [] => []
  | d :: ds => toPy d :: toPys ds
end
mutual
def cmpOk : D → Bool
  | .non => true
  | .bl _ => true
  | .int _ => true
  | .str _ => true
  | .con _ .lst l => cmpOks l
  | .con _ .kls l => cmpOks l
  | .con _ .tup l => cmpOks l
  | _ => false
def cmpOks : List D → Bool
  | [] => true
  | d :: ds => cmpOk d && cmpOks ds
end
def cmpB (x y : D) : Bool := cmpOk x && cmpOk y && SeqAt.shaped (toPy x) && SeqAt.shaped (toPy y)
def dEq (x y : D) : Bool := PyData.eqv (toPy x) (toPy y)
def pEq (x y : D) : R D := if cmpB x y = true then .ok (.bl (dEq x y)) else .stk
def pNe (x y : D) : R D := if cmpB x y = true then .ok (.bl (!dEq x y)) else .stk
def isNon : D → Option Bool
  | .non => some true
  | .unk => none
  | _ => some false
def isBl (b : Bool) : D → Option Bool
  | .bl c => some (c == b)
  | .unk => none
  | _ => some false
def pIs (x y : D) : R D := match y with
  | .non => match isNon x with
    | some b => .ok (.bl b)
    | none => .stk
  | .bl c => match isBl c x with
    | some b => .ok (.bl b)
    | none => .stk
  | _ => .stk
def pIsNot (x y : D) : R D := match y with
  | .non => match isNon x with
    | some b => .ok (.bl (!b))
    | none => .stk
  | _ => .stk
/-- an item -/
def pIx (x i : D) : R D := match x, i with
  | .con _ .lst l, .int i => match atI l i with
    | some d => .ok d
    | none => .stk
  | .con _ .kls l, .int i => match atI l i with
    | some d => .ok d
    | none => .stk
  | .con _ .tup l, .int i => match atI l i with
    | some d => .ok d
    | none => .stk
  | .str z, .int i => if z.length ≤ sizeLine then match atI z.cps.toList i with
      | some c => .ok (.str ⟨#[c]⟩)
      | none => .stk
    else .stk
  | _, _ => .stk
/-- x in a list or tuple -/
def pIn (x y : D) : R D := match y with
  | .con _ .lst l => if cmpB x y = true then .ok (.bl (l.any fun z => dEq z x)) else .stk
  | _ => .stk
def pNotIn (x y : D) : R D := match y with
  | .con _ .lst l => if cmpB x y = true then .ok (.bl (!l.any fun z => dEq z x)) else .stk
  | _ => .stk

theorem toPys_map : ∀ l : List D, toPys l = l.map toPy
  | [] => rfl
  | d :: ds => by rw [toPys, toPys_map ds]; rfl
theorem cmpOks_all : ∀ l : List D, cmpOks l = l.all cmpOk
  | [] => rfl
  | d :: ds => by rw [cmpOks, cmpOks_all ds]; rfl

section
variable {G : Gx}
theorem intOp_noexc {C : Int → Int → Bool} {g : Int → Int → D} (x y : D) (e : Exc) : intOp C g x y ≠ .exc e := by
  unfold intOp
  split
  · split <;> exact fun h => nomatch h
  · exact fun h => nomatch h
/-- an operator of two ints -/
theorem op2_sc {B H : Hp} {F1 : List Addr} {Q : VK} {p : Bool} {r : R D} (e : Ex B H) (hok : ∀ d, r = .ok d → ∀ u B' H' F, Gr B H B' H' → Own G B' H' d u F → F.Nodup → (∀ a ∈ F, B' a = none) → (∀ a ∈ F, H a = none ∨ (p = true ∧ a ∈ F1)) → Q u H')
    (d : D) (u : V) (h : r = .ok d) (hs : scalD d u) : Q u H := hok d h u B H [] (Gr.refl e) (own_scal hs) .nil (fun _ h => nomatch h) (fun _ h => nomatch h)
/-- an operator of two ints -/
theorem op2_int {C : Int → Int → Bool} {C' : Int → Int → Prop} {g : Int → Int → D} {g' : Int → Int → V} (hC : ∀ i j, C i j = true → C' i j) (hg : ∀ i j, scalD (g i j) (g' i j)) : Op2 G false (rI C' g') (intOp C g) := by
  intro B H x y v w F1 F2 Q e hx hy nd out hok hex hst
  have sc := op2_sc e hok
  cases x with
  | int i =>
    cases y with
    | int j =>
      obtain ⟨rfl, rfl⟩ := hx
      obtain ⟨rfl, rfl⟩ := hy
      by_cases c : C i j = true
      · exact ⟨i, j, rfl, rfl, hC i j c, sc (g i j) (g' i j) (by simp only [intOp, if_pos c]) (hg i j)⟩
      · exact absurd (by simp only [intOp, if_neg c]) hst
    | _ => exact absurd rfl hst
  | _ => exact absurd rfl hst
theorem op2_int0 {g : Int → Int → D} {g' : Int → Int → V} (hg : ∀ i j, scalD (g i j) (g' i j)) : Op2 G false (rI0 g') (intOp cT g) := by
  intro B H x y v w F1 F2 Q e hx hy n o hok hex hst
  have h := op2_int (G := G) (C := cT) (C' := fun _ _ => True) (g := g) (g' := g') (fun _ _ _ => trivial) hg B H x y v w F1 F2 Q e hx hy n o hok hex hst
  obtain ⟨i, j, h1, h2, _, h3⟩ := h
  exact ⟨i, j, h1, h2, h3⟩
theorem op2_sub : Op2 G false (rI0 fun i j => .int (i - j)) pSub := op2_int0 fun _ _ => rfl
theorem op2_lt : Op2 G false (rI0 fun i j => .bl (decide (i < j))) pLt := op2_int0 fun _ _ => rfl
theorem op2_le : Op2 G false (rI0 fun i j => .bl (decide (i ≤ j))) pLe := op2_int0 fun _ _ => rfl
theorem op2_gt : Op2 G false (rI0 fun i j => .bl (decide (j < i))) pGt := op2_int0 fun _ _ => rfl
theorem op2_ge : Op2 G false (rI0 fun i j => .bl (decide (j ≤ i))) pGe := op2_int0 fun _ _ => rfl
def CMulA (i j : Int) : Prop := CMul i j ∨ CMulW i j
theorem op_mulA {X : Cx} : OpR X (binaryOp .Mult) (rI CMulA fun i j => .int (i * j)) := opI fun _ _ _ _ _ _ _ hc q => PyProof.Rows.mul_int q (hc.elim CMul.ok CMulW.ok)
theorem op2_mul : Op2 G false (rI CMulA fun i j => .int (i * j)) pMul := op2_int (fun i j h => by
  simp only [cMul, Bool.or_eq_true, decide_eq_true_eq] at h
  rcases h with (h | h) | h
  · exact .inl (.inl h)
  · exact .inl (.inr h)
  · exact .inr h) fun _ _ => rfl
theorem op2_div : Op2 G false (rI CDivW fun i j => .int (i / j)) pDiv := op2_int (fun i j h => by
  simp only [cDiv, Bool.and_eq_true, Bool.or_eq_true, decide_eq_true_eq] at h
  refine ⟨h.1, ?_⟩
  rcases h.2 with h2 | h2
  · have h3 : j.natAbs < 2 ^ 30 := by omega
    have := PySem.Flt.log2_lt_of (by decide) h3
    omega
  · exact h2) fun _ _ => rfl
theorem op2_mod : Op2 G false (rI (fun _ j => 0 < j) fun i j => .int (i % j)) pMod := op2_int (fun i j h => by simpa [cMod] using h) fun _ _ => rfl
theorem op2_pow : Op2 G false (rI CPow fun i j => .int (i ^ j.toNat)) pPow := op2_int (fun i j h => by
  simp only [cPow, Bool.and_eq_true, decide_eq_true_eq] at h
  exact ⟨h.1.1, h.1.2, h.2⟩) fun _ _ => rfl
/-- + of ints, texts, lists -/
def rAddA : R2 := fun x y H Q => (∃ i j, x = .int i ∧ y = .int j ∧ Q (.int (i + j)) H) ∨ (∃ i j, x = .str i ∧ y = .str j ∧ i.length + j.length ≤ sizeLine ∧ Q (.str (i ++ j)) H) ∨ rCat x y H Q
theorem op_addA {X : Cx} : OpR X (binaryOp .Add) rAddA := (op_add (X := X)).or ((op_add_str (X := X)).or op_cat)
theorem pAdd_noexc (x y : D) (e : Exc) : pAdd x y ≠ .exc e := by
  unfold pAdd; split <;> (try split) <;> exact fun h => nomatch h
theorem op2_add : Op2 G false rAddA pAdd := by
  intro B H x y v w F1 F2 Q e hx hy nd out hok hex hst
  have sc := op2_sc e hok
  clear hex
  revert hok sc hst
  unfold pAdd
  split
  · rename_i i j
    intro hok hst sc
    obtain ⟨rfl, rfl⟩ := hx
    obtain ⟨rfl, rfl⟩ := hy
    exact .inl ⟨i, j, rfl, rfl, sc _ (.int (i + j)) rfl rfl⟩
  · rename_i a b
    intro hok hst sc
    obtain ⟨rfl, rfl⟩ := hx
    obtain ⟨rfl, rfl⟩ := hy
    split at hst
    · rename_i c
      exact .inr (.inl ⟨a, b, rfl, rfl, c, sc (.str (a ++ b)) _ (by simp only [if_pos c]) rfl⟩)
    · exact absurd rfl hst
  · rename_i o1 xs o2 ys
    intro hok hst sc
    split at hst
    · rename_i c
      obtain ⟨c1, c2, c3⟩ := c
      obtain ⟨a, us, F1', rfl, q2, q3, q4⟩ := hx.cell e
      obtain ⟨b, ws, F2', rfl, q6, q7, q8⟩ := hy.cell e
      have z1 := q2.shd c2
      have z2 := q6.shd c3
      subst z1; subst z2
      refine .inr (.inr ⟨a, b, us, ws, rfl, rfl, q3, q7, by rw [← q2.length, ← q6.length]; exact c1, fun p hp => ?_⟩)
      refine hok (.own (xs ++ ys)) (by simp only [if_pos (And.intro c1 (And.intro c2 c3))]) (.ref p) B (upd H p (.lst (us ++ ws))) [p] (Gr.newO e hp) ?_ (by simp) (fun a ha => ?_) (fun a ha => ?_)
      · exact ⟨p, us ++ ws, [], rfl, (Owns.noF q2).append (Owns.noF q6), ⟨upd_same, _, upd_same⟩, rfl, fun z => nomatch z⟩
      · rw [List.mem_singleton.mp ha]; exact none_back e hp
      · rw [List.mem_singleton.mp ha]; exact .inl hp
    · exact absurd rfl hst
  · exact fun _ hst _ => absurd rfl hst

/-! #### == -/
mutual
theorem dp_of {B H : Hp} (e : Ex B H) : ∀ {d : D} {v : V} {F : List Addr}, Own G B H d v F → cmpOk d = true → Dp G.K H v (toPy d)
  | .non, _, _, h, _ => by rw [h.1]; exact .non
  | .bl b, _, _, h, _ => by rw [h.1]; exact .bl b
  | .int i, _, _, h, _ => by rw [h.1]; exact .int i
  | .str s, _, _, h, _ => by rw [h.1]; exact .str s
  | .unk, _, _, _, c => by simp [cmpOk] at c
  | .rf _, _, _, _, c => by simp [cmpOk] at c
  | .con o .lst l, v, F, h, c => by
    obtain ⟨a, xs, F', rfl, q2, q3, q4⟩ := h.cell e
    exact .lst (SqL.of q3) (dpAll_of e q2 (by simpa [cmpOk] using c))
  | .con o .kls l, v, F, h, c => by
    obtain ⟨a, xs, F', rfl, q2, q3, q4⟩ := h.cell e
    exact .lst q3 (dpAll_of e q2 (by simpa [cmpOk] using c))
  | .con o .tup l, v, F, h, c => by
    obtain ⟨a, xs, F', rfl, q2, q3, q4⟩ := h.cell e
    exact .tup (SqT.of q3) (dpAll_of e q2 (by simpa [cmpOk] using c))
  | .con o (.dct _) l, v, F, h, c => by simp [cmpOk] at c
  | .con o (.dtt _) l, v, F, h, c => by simp [cmpOk] at c
  | .con o (.obj _ _) l, v, F, h, c => by simp [cmpOk] at c
theorem dpAll_of {B H : Hp} (e : Ex B H) : ∀ {ds : List D} {xs : List V} {F : List Addr}, Owns G B H ds xs F → cmpOks ds = true → DpAll G.K H xs (toPys ds)
  | [], _, _, h, _ => by rw [h.1]; exact .nil
  | d :: ds, _, _, h, c => by
    obtain ⟨x, xs', F1, F2, e1, e2, e3, e4⟩ := h
    simp only [cmpOks, Bool.and_eq_true] at c
    rw [e1]
    exact .cons (dp_of e e3 c.1) (dpAll_of e e4 c.2)
end
theorem pEq_noexc (x y : D) (e : Exc) : pEq x y ≠ .exc e := by unfold pEq; split <;> exact fun h => nomatch h
theorem pNe_noexc (x y : D) (e : Exc) : pNe x y ≠ .exc e := by unfold pNe; split <;> exact fun h => nomatch h
theorem op2_eq : Op2 G false (rEqD G.K) pEq := by
  intro B H x y v w F1 F2 Q e hx hy nd out hok hex hst
  have sc := op2_sc e hok
  by_cases c : cmpB x y = true
  · have c' := c
    simp only [cmpB, Bool.and_eq_true] at c'
    exact ⟨_, _, dp_of e hx c'.1.1.1, dp_of e hy c'.1.1.2, c'.1.2, c'.2, sc (.bl (dEq x y)) _ (by simp only [pEq, if_pos c]) rfl⟩
  · exact absurd (by simp only [pEq, if_neg c]) hst
theorem op2_ne : Op2 G false (rNeD G.K) pNe := by
  intro B H x y v w F1 F2 Q e hx hy nd out hok hex hst
  have sc := op2_sc e hok
  by_cases c : cmpB x y = true
  · have c' := c
    simp only [cmpB, Bool.and_eq_true] at c'
    exact ⟨_, _, dp_of e hx c'.1.1.1, dp_of e hy c'.1.1.2, c'.1.2, c'.2, sc (.bl (!dEq x y)) _ (by simp only [pNe, if_pos c]) rfl⟩
  · exact absurd (by simp only [pNe, if_neg c]) hst
/-! #### in -/
theorem any_eqv {x : D} {l : List D} : (toPys l).any (fun z => PyData.eqv z (toPy x)) = l.any fun z => dEq z x := by
  rw [toPys_map, List.any_map]; rfl
theorem op2_in : Op2 G false (rInD G.K) pIn := by
  intro B H x y v w F1 F2 Q e hx hy nd out hok hex hst
  have sc := op2_sc e hok
  clear hex hok
  revert sc hst
  unfold pIn
  split
  · rename_i o l
    intro hst sc
    split at hst
    · rename_i c
      have c' := c
      simp only [cmpB, Bool.and_eq_true] at c'
      have hd := dp_of e hy c'.1.1.2
      refine ⟨_, toPys l, dp_of e hx c'.1.1.1, by simpa [toPy] using hd, c'.1.2, by simpa [toPy] using c'.2, ?_⟩
      rw [any_eqv]
      exact sc (.bl (l.any fun z => dEq z x)) _ (by simp only [if_pos c]) rfl
    · exact absurd rfl hst
  · exact fun hst _ => absurd rfl hst
theorem op2_notIn : Op2 G false (rNotInD G.K) pNotIn := by
  intro B H x y v w F1 F2 Q e hx hy nd out hok hex hst
  have sc := op2_sc e hok
  clear hex hok
  revert sc hst
  unfold pNotIn
  split
  · rename_i o l
    intro hst sc
    split at hst
    · rename_i c
      have c' := c
      simp only [cmpB, Bool.and_eq_true] at c'
      have hd := dp_of e hy c'.1.1.2
      refine ⟨_, toPys l, dp_of e hx c'.1.1.1, by simpa [toPy] using hd, c'.1.2, by simpa [toPy] using c'.2, ?_⟩
      rw [any_eqv]
      exact sc (.bl (!l.any fun z => dEq z x)) _ (by simp only [if_pos c]) rfl
    · exact absurd rfl hst
  · exact fun hst _ => absurd rfl hst
theorem pIn_noexc (x y : D) (e : Exc) : pIn x y ≠ .exc e := by unfold pIn; split <;> (try split) <;> exact fun h => nomatch h
theorem pNotIn_noexc (x y : D) (e : Exc) : pNotIn x y ≠ .exc e := by unfold pNotIn; split <;> (try split) <;> exact fun h => nomatch h
/-! #### is -/
theorem is_bool_gen {M : Model} {A : Around} {E : Value → Shared → Prop} {s : Shared} {Q : Value → Shared → Prop} {v : Value} {b : Bool} (hv : ∀ n, v ≠ .builtin n) (h : Q (.bool (v == .bool b)) s) : wpAny M A (compareOp .Is v (.bool b)) Q E s := by
  cases v with
  | builtin n => exact absurd rfl (hv n)
  | _ => exact wpAny_pure h
def rIsA : R2 := fun x y H Q => (y = .non ∧ Q (.bl (decide (x = .non))) H) ∨ (∃ b, y = .bl b ∧ Q (.bl (decide (x = .bl b))) H)
theorem op_isA {X : Cx} : OpR X (compareOp .Is) rIsA := by
  intro pins s σ H x y v u Q I rx ry h
  rcases h with h | ⟨b, rfl, q⟩
  · exact op_isN pins s σ H x y v u Q I rx ry h
  · cases (show u = Value.bool b from ry)
    refine is_bool_gen (fun n hn => ?_) ⟨.bl (decide (x = .bl b)), H, I, ?_, q⟩
    · subst hn
      cases x with
      | int _ => obtain ⟨t, z⟩ := rx; cases z
      | str _ => obtain ⟨t, z⟩ := rx; cases z
      | byt _ => obtain ⟨t, z⟩ := rx; cases z
      | flt _ => obtain ⟨t, z⟩ := rx; cases z
      | _ => cases rx
    · cases x with
      | bl c => cases (show v = Value.bool c from rx); show Value.bool _ = Value.bool _; cases b <;> cases c <;> rfl
      | int _ => obtain ⟨t, rfl⟩ := rx; rfl
      | str _ => obtain ⟨t, rfl⟩ := rx; rfl
      | byt _ => obtain ⟨t, rfl⟩ := rx; rfl
      | flt _ => obtain ⟨t, rfl⟩ := rx; rfl
      | _ => cases rx; rfl
theorem own_isNon {B H : Hp} {d : D} {v : V} {F : List Addr} {b : Bool} (h : Own G B H d v F) (e : isNon d = some b) : decide (v = .non) = b := by
  cases d with
  | unk => cases e
  | non => rw [h.1]; cases e; rfl
  | bl c => rw [h.1]; cases e; rfl
  | int c => rw [h.1]; cases e; rfl
  | str c => rw [h.1]; cases e; rfl
  | rf c => rw [h.1]; cases e; rfl
  | con o k l => obtain ⟨a, xs, F', e1, _⟩ := h; rw [e1]; cases e; rfl
theorem own_isBl {B H : Hp} {d : D} {v : V} {F : List Addr} {b c : Bool} (h : Own G B H d v F) (e : isBl c d = some b) : decide (v = .bl c) = b := by
  cases d with
  | unk => cases e
  | non => rw [h.1]; cases e; rfl
  | bl x => rw [h.1]; cases e; cases x <;> cases c <;> rfl
  | int c => rw [h.1]; cases e; rfl
  | str c => rw [h.1]; cases e; rfl
  | rf c => rw [h.1]; cases e; rfl
  | con o k l => obtain ⟨a, xs, F', e1, _⟩ := h; rw [e1]; cases e; rfl
theorem pIs_noexc (x y : D) (e : Exc) : pIs x y ≠ .exc e := by unfold pIs; split <;> (try split) <;> exact fun h => nomatch h
theorem pIsNot_noexc (x y : D) (e : Exc) : pIsNot x y ≠ .exc e := by unfold pIsNot; split <;> (try split) <;> exact fun h => nomatch h
theorem op2_is : Op2 G false rIsA pIs := by
  intro B H x y v w F1 F2 Q e hx hy nd out hok hex hst
  have sc := op2_sc e hok
  cases y with
  | non =>
    obtain ⟨rfl, rfl⟩ := hy
    cases q : isNon x with
    | none => exact absurd (by simp only [pIs, q]) hst
    | some b =>
      refine .inl ⟨rfl, ?_⟩
      rw [own_isNon hx q]
      exact sc (.bl b) _ (by simp only [pIs, q]) rfl
  | bl c =>
    obtain ⟨rfl, rfl⟩ := hy
    cases q : isBl c x with
    | none => exact absurd (by simp only [pIs, q]) hst
    | some b =>
      refine .inr ⟨c, rfl, ?_⟩
      rw [own_isBl hx q]
      exact sc (.bl b) _ (by simp only [pIs, q]) rfl
  | _ => exact absurd rfl hst
theorem op2_isNot : Op2 G false (fun x y H Q => y = .non ∧ Q (.bl (!decide (x = .non))) H) pIsNot := by
  intro B H x y v w F1 F2 Q e hx hy nd out hok hex hst
  have sc := op2_sc e hok
  cases y with
  | non =>
    obtain ⟨rfl, rfl⟩ := hy
    cases q : isNon x with
    | none => exact absurd (by simp only [pIsNot, q]) hst
    | some b =>
      refine ⟨rfl, ?_⟩
      rw [own_isNon hx q]
      exact sc (.bl (!b)) _ (by simp only [pIsNot, q]) rfl
  | _ => exact absurd rfl hst
/-! #### items -/
theorem atI_own {B H : Hp} {l : List D} {xs : List V} {F : List Addr} {i : Int} {d : D} (h : Owns G B H l xs F) (e : atI l i = some d) : ∃ x F1, atI xs i = some x ∧ Own G B H d x F1 ∧ F1.Sublist F := by
  unfold atI at e ⊢
  rw [← h.length]
  cases q : ixN l.length i with
  | none => rw [q] at e; cases e
  | some j =>
    rw [q] at e
    obtain ⟨x, F1, q1, q2, q3⟩ := h.get (i := j) (by simpa using e)
    exact ⟨x, F1, by simpa using q1, q2, q3⟩
theorem pIx_noexc (x y : D) (e : Exc) : pIx x y ≠ .exc e := by unfold pIx; split <;> (try split) <;> (try split) <;> exact fun h => nomatch h
theorem op2_ix : Op2 G true (rIx G.K) pIx := by
  intro B H x y v w F1 F2 Q e hx hy nd out hok hex hst
  have sc := op2_sc e hok
  clear hex
  have fin : ∀ {o : Bool} {l : List D} {i : Int} {a : Addr} {F' : List Addr} {xs : List V}, Owns G B H l xs F' → F1 = ownF o a F' → (∀ d, atI l i = some d → pIx x y = .ok d) → (atI l i = none → pIx x y = .stk) → ∃ u, atI xs i = some u ∧ Q u H := by
    intro o l i a F' xs h1 h2 h3 h4
    cases q : atI l i with
    | none => exact absurd (h4 q) hst
    | some d =>
      obtain ⟨u, F3, q1, q2, q3⟩ := atI_own h1 q
      have sub : F3.Sublist F1 := by rw [h2]; exact q3.trans sub_ownF
      exact ⟨u, q1, hok d (h3 d q) u B H F3 (Gr.refl e) q2 (nd.sublist sub) (fun a ha => out a (sub.subset ha)) (fun a ha => .inr ⟨rfl, sub.subset ha⟩)⟩
  clear hok
  revert fin sc hst
  unfold pIx
  split
  · rename_i o l i
    intro hst sc fin
    obtain ⟨a, xs, F', rfl, q2, q3, q4⟩ := hx.cell e
    obtain ⟨rfl, rfl⟩ := hy
    obtain ⟨u, h1, h2⟩ := fin (i := i) q2 q4 (fun d hd => by simp only [hd]) (fun hd => by simp only [hd])
    exact .inl ⟨a, xs, i, u, rfl, rfl, SqL.of q3, h1, h2⟩
  · rename_i o l i
    intro hst sc fin
    obtain ⟨a, xs, F', rfl, q2, q3, q4⟩ := hx.cell e
    obtain ⟨rfl, rfl⟩ := hy
    obtain ⟨u, h1, h2⟩ := fin (i := i) q2 q4 (fun d hd => by simp only [hd]) (fun hd => by simp only [hd])
    exact .inl ⟨a, xs, i, u, rfl, rfl, q3, h1, h2⟩
  · rename_i o l i
    intro hst sc fin
    obtain ⟨a, xs, F', rfl, q2, q3, q4⟩ := hx.cell e
    obtain ⟨rfl, rfl⟩ := hy
    obtain ⟨u, h1, h2⟩ := fin (i := i) q2 q4 (fun d hd => by simp only [hd]) (fun hd => by simp only [hd])
    exact .inr (.inl ⟨a, xs, i, u, rfl, rfl, SqT.of q3, h1, h2⟩)
  · rename_i z i
    intro hst sc fin
    obtain ⟨rfl, rfl⟩ := hx
    obtain ⟨rfl, rfl⟩ := hy
    split at hst
    · rename_i hz
      cases q : atI z.cps.toList i with
      | none => rw [q] at hst; exact absurd rfl hst
      | some c => exact .inr (.inr ⟨z, i, c, rfl, rfl, hz, q, sc (.str ⟨#[c]⟩) _ (by simp only [if_pos hz, q]) rfl⟩)
    · exact absurd rfl hst
  · exact fun hst _ _ => absurd rfl hst
end
end DP


set_option Elab.async false
set_option linter.all false
set_option maxRecDepth 100000
set_option maxHeartbeats 4000000
namespace DP
open PySem L2 Evl

/-! ### truth -/
def toTru : D → R Bool
  | .non => .ok false
  | .bl b => .ok b
  | .int i => .ok (i != 0)
  | .str s => if s.length ≤ sizeLine then .ok ((s.length : Int) != 0) else .stk
  | .con _ .lst l => .ok (!l.isEmpty)
  | .con _ .kls l => .ok (!l.isEmpty)
  | .con _ .tup l => .ok (!l.isEmpty)
  | .con _ (.dct ks) l => .ok (!l.isEmpty)
  | _ => .stk
def toBl : D → R Bool
  | .bl b => .ok b
  | _ => .stk
section
variable {G : Gx} {W : WX} {m m1 m2 : Option Nat} {t ta tb tc : TE} {fa fb fc : Env → R D} {tt tu : TT} {ft fu : Env → R Bool}
theorem isEmpty_own {B H : Hp} {l : List D} {xs : List V} {F : List Addr} (h : Owns G B H l xs F) : (!l.isEmpty) = !xs.isEmpty := by
  have := h.length
  cases l <;> cases xs <;> first | rfl | simp at this
theorem tru_of {B H : Hp} {d : D} {v : V} {F : List Addr} {b : Bool} (e : Ex B H) (h : Own G B H d v F) (hb : toTru d = .ok b) : TruV G.K v H b := by
  cases d with
  | unk => cases hb
  | rf a => cases hb
  | non => rw [h.1]; cases hb; rfl
  | bl c => rw [h.1]; cases hb; rfl
  | int i => rw [h.1]; cases hb; rfl
  | str s =>
    rw [h.1]
    have hb' : (if s.length ≤ sizeLine then R.ok ((s.length : Int) != 0) else R.stk) = R.ok b := hb
    split at hb'
    · rename_i c; cases hb'; exact ⟨c, rfl⟩
    · cases hb'
  | con o k l =>
    obtain ⟨a, xs, F', rfl, q2, q3, q4⟩ := h.cell e
    cases k with
    | lst => cases hb; exact .inl ⟨xs, SqL.of q3, isEmpty_own q2⟩
    | kls => cases hb; exact .inl ⟨xs, q3, isEmpty_own q2⟩
    | tup => cases hb; exact .inr (.inl ⟨xs, SqT.of q3, isEmpty_own q2⟩)
    | dct ks =>
      cases hb
      refine .inr (.inr ⟨ks.zip xs, q3.2, ?_⟩)
      rw [isEmpty_own q2]
      have := q3.1
      cases ks <;> cases xs <;> first | rfl | simp at this
    | dtt ks => cases hb
    | obj c ns => cases hb
def eTru (f : Env → R D) : Env → R Bool := fun env => f env >>= toTru
def tTru (K : PySem.W.Frag) (ta : TE) : TT := fun σ H Q => ta σ H fun x H' => ∃ k, TruV K x H' k ∧ Q k H'
theorem toTru_noexc {d : D} {e : Exc} : toTru d ≠ .exc e := by unfold toTru; split <;> (try split) <;> exact fun h => nomatch h
theorem sim_tru (h : Sim G W m ta fa) : SimT G W (tTru G.K ta) (eTru fa) := fun B H env σ φ Q S hok hex hst => by
  refine h B H env σ φ _ S (fun d hd v B' H' F r => ?_) (fun e he cls dx B' H' r => hex e (by show (fa env >>= _) = _; rw [he]; rfl) cls dx B' H' r) (bind_stk hst)
  have E : eTru fa env = toTru d := by show (fa env >>= _) = _; rw [hd]; rfl
  cases q : toTru d with
  | stk => exact absurd (E.trans q) hst
  | exc e => exact absurd q toTru_noexc
  | ok b => exact ⟨b, tru_of r.gr.bh r.ow q, hok b (E.trans q) B' H' r.gr⟩
def eTest (f : Env → R D) : Env → R Bool := fun env => f env >>= toBl
theorem sim_test (h : Sim G W m ta fa) : SimT G W (tTest ta) (eTest fa) := fun B H env σ φ Q S hok hex hst => by
  refine h B H env σ φ _ S (fun d hd v B' H' F r => ?_) (fun e he cls dx B' H' r => hex e (by show (fa env >>= _) = _; rw [he]; rfl) cls dx B' H' r) (bind_stk hst)
  have E : eTest fa env = toBl d := by show (fa env >>= _) = _; rw [hd]; rfl
  cases d with
  | bl b => exact ⟨b, r.ow.1, hok b E B' H' r.gr⟩
  | _ => exact absurd E hst
/-! ### and, or, not -/
def eAnd (f g : Env → R Bool) : Env → R Bool := fun env => f env >>= fun b => if b = true then g env else .ok false
def eOr (f g : Env → R Bool) : Env → R Bool := fun env => f env >>= fun b => if b = true then .ok true else g env
def eNot (f : Env → R Bool) : Env → R Bool := fun env => f env >>= fun b => .ok (!b)
theorem sim_and (h : SimT G W tt ft) (h' : SimT G W tu fu) : SimT G W (tAnd tt tu) (eAnd ft fu) := fun B H env σ φ Q S hok hex hst => by
  refine h B H env σ φ _ S (fun b hb B1 H1 g => ?_) (fun e he cls dx B' H' r => hex e (by show (ft env >>= _) = _; rw [he]; rfl) cls dx B' H' r) (bind_stk hst)
  have E : eAnd ft fu env = if b = true then fu env else .ok false := by show (ft env >>= _) = _; rw [hb]; rfl
  cases b with
  | true => exact h' B1 H1 env σ φ _ (S.grow g) (fun c hc B' H' g' => hok c (E.trans hc) B' H' (g.trans g')) (fun e he cls dx B' H' r => hex e (E.trans he) cls dx B' H' (r.pre g)) (fun z => hst (E.trans z))
  | false => exact hok false E B1 H1 g
theorem sim_or (h : SimT G W tt ft) (h' : SimT G W tu fu) : SimT G W (tOr tt tu) (eOr ft fu) := fun B H env σ φ Q S hok hex hst => by
  refine h B H env σ φ _ S (fun b hb B1 H1 g => ?_) (fun e he cls dx B' H' r => hex e (by show (ft env >>= _) = _; rw [he]; rfl) cls dx B' H' r) (bind_stk hst)
  have E : eOr ft fu env = if b = true then .ok true else fu env := by show (ft env >>= _) = _; rw [hb]; rfl
  cases b with
  | false => exact h' B1 H1 env σ φ _ (S.grow g) (fun c hc B' H' g' => hok c (E.trans hc) B' H' (g.trans g')) (fun e he cls dx B' H' r => hex e (E.trans he) cls dx B' H' (r.pre g)) (fun z => hst (E.trans z))
  | true => exact hok true E B1 H1 g
theorem sim_not (h : SimT G W tt ft) : SimT G W (tNot tt) (eNot ft) := fun B H env σ φ Q S hok hex hst =>
  h B H env σ φ _ S (fun b hb B1 H1 g => hok (!b) (by show (ft env >>= _) = _; rw [hb]; rfl) B1 H1 g) (fun e he cls dx B' H' r => hex e (by show (ft env >>= _) = _; rw [he]; rfl) cls dx B' H' r) (bind_stk hst)
/-- as values: bools -/
def eAndV (f g : Env → R D) : Env → R D := fun env => f env >>= fun d => toBl d >>= fun b => if b = true then g env else .ok (.bl false)
def eOrV (f g : Env → R D) : Env → R D := fun env => f env >>= fun d => toBl d >>= fun b => if b = true then .ok (.bl true) else g env
def eNotV (f : Env → R D) : Env → R D := fun env => f env >>= fun d => toBl d >>= fun b => .ok (.bl (!b))
theorem sim_andV (h : Sim G W m1 ta fa) (h' : Sim G W m tb fb) : Sim G W m (tAndV ta tb) (eAndV fa fb) := fun B H env σ φ Q S hok hex hst => by
  refine h B H env σ φ _ S (fun d hd v B1 H1 F r => ?_) (fun e he cls dx B' H' r => hex e (by show (fa env >>= _) = _; rw [he]; rfl) cls dx B' H' r) (bind_stk hst)
  have E0 : eAndV fa fb env = (toBl d >>= fun b => if b = true then fb env else .ok (.bl false)) := by show (fa env >>= _) = _; rw [hd]; rfl
  cases d with
  | bl b =>
    have E : eAndV fa fb env = if b = true then fb env else .ok (.bl false) := E0
    refine ⟨b, r.ow.1, ?_⟩
    cases b with
    | true => exact h' B1 H1 env σ φ _ (S.grow r.gr) (fun c hc v B' H' F' r' => hok c (E.trans hc) v B' H' F' (r'.pre r.gr)) (fun e he cls dx B' H' r' => hex e (E.trans he) cls dx B' H' (r'.pre r.gr)) (fun z => hst (E.trans z))
    | false => exact hok _ E _ B1 H1 [] (.sh r.gr ⟨rfl, rfl⟩)
  | _ => exact absurd E0 hst
theorem sim_orV (h : Sim G W m1 ta fa) (h' : Sim G W m tb fb) : Sim G W m (tOrV ta tb) (eOrV fa fb) := fun B H env σ φ Q S hok hex hst => by
  refine h B H env σ φ _ S (fun d hd v B1 H1 F r => ?_) (fun e he cls dx B' H' r => hex e (by show (fa env >>= _) = _; rw [he]; rfl) cls dx B' H' r) (bind_stk hst)
  have E0 : eOrV fa fb env = (toBl d >>= fun b => if b = true then .ok (.bl true) else fb env) := by show (fa env >>= _) = _; rw [hd]; rfl
  cases d with
  | bl b =>
    have E : eOrV fa fb env = if b = true then .ok (.bl true) else fb env := E0
    refine ⟨b, r.ow.1, ?_⟩
    cases b with
    | false => exact h' B1 H1 env σ φ _ (S.grow r.gr) (fun c hc v B' H' F' r' => hok c (E.trans hc) v B' H' F' (r'.pre r.gr)) (fun e he cls dx B' H' r' => hex e (E.trans he) cls dx B' H' (r'.pre r.gr)) (fun z => hst (E.trans z))
    | true => exact hok _ E _ B1 H1 [] (.sh r.gr ⟨rfl, rfl⟩)
  | _ => exact absurd E0 hst
theorem sim_notV (h : Sim G W m1 ta fa) : Sim G W m (tNotV ta) (eNotV fa) := fun B H env σ φ Q S hok hex hst => by
  refine h B H env σ φ _ S (fun d hd v B1 H1 F r => ?_) (fun e he cls dx B' H' r => hex e (by show (fa env >>= _) = _; rw [he]; rfl) cls dx B' H' r) (bind_stk hst)
  have E0 : eNotV fa env = (toBl d >>= fun b => .ok (.bl (!b))) := by show (fa env >>= _) = _; rw [hd]; rfl
  cases d with
  | bl b => exact ⟨b, r.ow.1, hok _ E0 _ B1 H1 [] (.sh r.gr ⟨rfl, rfl⟩)⟩
  | _ => exact absurd E0 hst
def eIf (f : Env → R Bool) (g h : Env → R D) : Env → R D := fun env => f env >>= fun b => if b = true then g env else h env
theorem sim_if (h : SimT G W tt ft) (ha : Sim G W m ta fa) (hb : Sim G W m tb fb) : Sim G W m (tIf tt ta tb) (eIf ft fa fb) := fun B H env σ φ Q S hok hex hst => by
  refine h B H env σ φ _ S (fun b hb' B1 H1 g => ?_) (fun e he cls dx B' H' r => hex e (by show (ft env >>= _) = _; rw [he]; rfl) cls dx B' H' r) (bind_stk hst)
  have E : eIf ft fa fb env = if b = true then fa env else fb env := by show (ft env >>= _) = _; rw [hb']; rfl
  cases b with
  | true => exact ha B1 H1 env σ φ _ (S.grow g) (fun c hc v B' H' F' r' => hok c (E.trans hc) v B' H' F' (r'.pre g)) (fun e he cls dx B' H' r' => hex e (E.trans he) cls dx B' H' (r'.pre g)) (fun z => hst (E.trans z))
  | false => exact hb B1 H1 env σ φ _ (S.grow g) (fun c hc v B' H' F' r' => hok c (E.trans hc) v B' H' F' (r'.pre g)) (fun e he cls dx B' H' r' => hex e (E.trans he) cls dx B' H' (r'.pre g)) (fun z => hst (E.trans z))
/-- a < b < c -/
def eChain (g g' : D → D → R D) (fa fb fc : Env → R D) : Env → R D := fun env => fa env >>= fun x => fb env >>= fun y => g x y >>= fun d => toBl d >>= fun b => if b = true then fc env >>= fun z => g' y z else .ok (.bl false)
theorem sim_chain {r r' : R2} {g g' : D → D → R D} (hg : ∀ x y e, g x y ≠ .exc e) (hg' : ∀ x y e, g' x y ≠ .exc e) (ho : Op2 G false r g) (ho' : Op2 G false r' g') (ha : Sim G W none ta fa) (hb : Sim G W none tb fb) (hc : Sim G W m2 tc fc) :
    Sim G W m (tChain r r' ta tb tc) (eChain g g' fa fb fc) := fun B H env σ φ Q S hok hex hst => by
  have hst0 := hst
  refine ha B H env σ φ _ S (fun x hx v B1 H1 F1 r1 => ?_) (fun e he cls dx B' H' rx => hex e (by show (fa env >>= _) = _; rw [he]; rfl) cls dx B' H' rx) (bind_stk hst)
  have E1 : eChain g g' fa fb fc env = (fb env >>= fun y => g x y >>= fun d => toBl d >>= fun b => if b = true then fc env >>= fun z => g' y z else .ok (.bl false)) := by show (fa env >>= _) = _; rw [hx]; rfl
  rw [E1] at hst
  refine hb B1 H1 env σ φ _ (S.grow r1.gr) (fun y hy w B2 H2 F2 r2 => ?_) (fun e he cls dx B' H' rx => hex e (by rw [E1, he]; rfl) cls dx B' H' (rx.pre r1.gr)) (bind_stk hst)
  have E2 : eChain g g' fa fb fc env = (g x y >>= fun d => toBl d >>= fun b => if b = true then fc env >>= fun z => g' y z else .ok (.bl false)) := by rw [E1, hy]; rfl
  rw [hy] at hst
  have o1 : Own G B2 H2 x v F1 := Own.mono r2.gr.bb r1.ow (fun a _ o => r2.gr.hh a o)
  have out1 : ∀ a ∈ F1, B2 a = none := fun a ha' => by
    cases q : B2 a with
    | none => rfl
    | some o =>
      have z := r2.gr.nw a o q (r1.out a ha')
      obtain ⟨u, z2⟩ := r1.ow.dom a ha'
      rw [z] at z2; cases z2
  refine ho B2 H2 x y v w F1 F2 _ r2.gr.bh o1 r2.ow r1.nd out1 (fun d hd u B3 H3 F3 g3 o3 n3 out3 f3 => ?_) (hg x y) (bind_stk hst)
  have E3 : eChain g g' fa fb fc env = (toBl d >>= fun b => if b = true then fc env >>= fun z => g' y z else .ok (.bl false)) := by rw [E2, hd]; rfl
  have g123 := (r1.gr.trans r2.gr).trans g3
  cases d with
  | bl b =>
    have E4 : eChain g g' fa fb fc env = if b = true then fc env >>= fun z => g' y z else .ok (.bl false) := E3
    have hst4 : (if b = true then fc env >>= fun z => g' y z else R.ok (.bl false)) ≠ .stk := fun z => hst0 (E4.trans z)
    refine ⟨b, o3.1, ?_⟩
    cases b with
    | false => exact hok _ E4 _ B3 H3 [] (.sh g123 ⟨rfl, rfl⟩)
    | true =>
      refine hc B3 H3 env σ φ _ (S.grow g123) (fun z hz u4 B4 H4 F4 r4 => ?_) (fun e he cls dx B' H' rx => hex e (by rw [E4, if_pos rfl, he]; rfl) cls dx B' H' (rx.pre g123)) (bind_stk hst4)
      have E5 : eChain g g' fa fb fc env = g' y z := by rw [E4, if_pos rfl, hz]; rfl
      have st5 : g' y z ≠ .stk := fun q => hst4 (by rw [if_pos rfl, hz]; exact q)
      have g34 := g3.trans r4.gr
      have o2 : Own G B4 H4 y w F2 := Own.mono g34.bb r2.ow (fun a _ o => g34.hh a o)
      have out2 : ∀ a ∈ F2, B4 a = none := fun a ha' => by
        cases q : B4 a with
        | none => rfl
        | some o =>
          have z := g34.nw a o q (r2.out a ha')
          obtain ⟨u, z2⟩ := r2.ow.dom a ha'
          rw [z] at z2; cases z2
      refine ho' B4 H4 y z w u4 F2 F4 Q r4.gr.bh o2 r4.ow r2.nd out2 (fun d5 hd5 u5 B5 H5 F5 g5 o5 n5 out5 f5 => ?_) (hg' y z) st5
      exact hok d5 (E5.trans hd5) u5 B5 H5 F5 ⟨(g123.trans r4.gr).trans g5, o5, n5, out5, fun a ha' => .inl (none_back (g123.trans r4.gr).hh ((f5 a ha').elim id fun z => nomatch z.1))⟩
  | _ => exact absurd E3 hst0
end

/-! ### argument lists, read -/
structure RsV (G : Gx) (B H : Hp) (ds : List D) (vs : List V) (B' H' : Hp) (F : List Addr) : Prop where
  gr : Gr B H B' H'
  ow : Owns G B' H' ds vs F
def SimV (G : Gx) (W : WX) (t : TA) (f : Env → R (List D)) : Prop := ∀ B H env σ φ Q, Sta G B H env σ φ →
  (∀ ds, f env = .ok ds → ∀ vs B' H' F, RsV G B H ds vs B' H' F → Q vs H') →
  (∀ e, f env = .exc e → ∀ cls dx B' H', Rx G B H B' H' e cls dx → W cls dx σ H') →
  f env ≠ .stk → t σ H Q
def eNil : Env → R (List D) := fun _ => .ok []
def eCons (f : Env → R D) (g : Env → R (List D)) : Env → R (List D) := fun env => f env >>= fun d => g env >>= fun ds => .ok (d :: ds)
section
variable {G : Gx} {W : WX} {m m1 m2 : Option Nat} {t ta tb tc : TE} {fa fb fc : Env → R D} {tr : TA} {fr : Env → R (List D)}
theorem simV_nil : SimV G W tNil eNil := fun B H env σ φ Q S hok hex hst => hok [] rfl [] B H [] ⟨Gr.refl S.ex, Owns.nil⟩
theorem simV_cons (h : Sim G W m ta fa) (hr : SimV G W tr fr) : SimV G W (tCons ta tr) (eCons fa fr) := fun B H env σ φ Q S hok hex hst => by
  refine h B H env σ φ _ S (fun d hd v B1 H1 F1 r1 => ?_) (fun e he cls dx B' H' rx => hex e (by show (fa env >>= _) = _; rw [he]; rfl) cls dx B' H' rx) (bind_stk hst)
  have E1 : eCons fa fr env = (fr env >>= fun ds => .ok (d :: ds)) := by show (fa env >>= _) = _; rw [hd]; rfl
  rw [E1] at hst
  refine hr B1 H1 env σ φ _ (S.grow r1.gr) (fun ds hds vs B2 H2 F2 r2 => ?_) (fun e he cls dx B' H' rx => hex e (by rw [E1, he]; rfl) cls dx B' H' (rx.pre r1.gr)) (bind_stk hst)
  exact hok (d :: ds) (by rw [E1, hds]; rfl) (v :: vs) B2 H2 (F1 ++ F2) ⟨r1.gr.trans r2.gr, Owns.cons (Own.mono r2.gr.bb r1.ow (fun a _ o => r2.gr.hh a o)) r2.ow⟩
/-- arguments to be kept: new or shared -/
theorem simA_nil : SimA G W tNil eNil := fun B H env σ φ Q S hok hex hst => hok [] rfl [] B H [] ⟨Gr.refl S.ex, Owns.nil, .nil, fun _ h => (nomatch h), fun _ h => (nomatch h)⟩
theorem out_grow {B H B' H' : Hp} (g : Gr B H B' H') {F : List Addr} (out : ∀ a ∈ F, B a = none) (dom : ∀ a ∈ F, ∃ o, H a = some o) : ∀ a ∈ F, B' a = none := fun a ha => by
  cases q : B' a with
  | none => rfl
  | some o =>
    have z := g.nw a o q (out a ha)
    obtain ⟨u, z2⟩ := dom a ha
    rw [z] at z2; cases z2
theorem fresh_disj {H H' : Hp} {F F' : List Addr} (dom : ∀ a ∈ F, ∃ o, H a = some o) (fr : ∀ a ∈ F', H a = none) : ∀ a ∈ F, ∀ b ∈ F', a ≠ b := fun a ha b hb e => by
  obtain ⟨o, h⟩ := dom a ha
  rw [e, fr b hb] at h; cases h
theorem simA_cons (h : Sim G W none ta fa) (hr : SimA G W tr fr) : SimA G W (tCons ta tr) (eCons fa fr) := fun B H env σ φ Q S hok hex hst => by
  refine h B H env σ φ _ S (fun d hd v B1 H1 F1 r1 => ?_) (fun e he cls dx B' H' rx => hex e (by show (fa env >>= _) = _; rw [he]; rfl) cls dx B' H' rx) (bind_stk hst)
  have E1 : eCons fa fr env = (fr env >>= fun ds => .ok (d :: ds)) := by show (fa env >>= _) = _; rw [hd]; rfl
  rw [E1] at hst
  refine hr B1 H1 env σ φ _ (S.grow r1.gr) (fun ds hds vs B2 H2 F2 r2 => ?_) (fun e he cls dx B' H' rx => hex e (by rw [E1, he]; rfl) cls dx B' H' (rx.pre r1.gr)) (bind_stk hst)
  have dom1 := r1.ow.dom
  refine hok (d :: ds) (by rw [E1, hds]; rfl) (v :: vs) B2 H2 (F1 ++ F2) ⟨r1.gr.trans r2.gr, Owns.cons (Own.mono r2.gr.bb r1.ow (fun a _ o => r2.gr.hh a o)) r2.ow, ?_, fun a ha => ?_, fun a ha => ?_⟩
  · exact List.nodup_append.mpr ⟨r1.nd, r2.nd, fresh_disj (H := H1) (H' := H1) dom1 r2.fr⟩
  · rcases List.mem_append.mp ha with ha | ha
    · exact out_grow r2.gr r1.out dom1 a ha
    · exact r2.out a ha
  · rcases List.mem_append.mp ha with ha | ha
    · exact (r1.fr a ha).elim id fun ⟨_, z, _⟩ => nomatch z
    · exact none_back r1.gr.hh (r2.fr a ha)
theorem SimA.shV (h : SimA G W tr fr) : SimV G W tr fr := fun B H env σ φ Q S hok hex hst =>
  h B H env σ φ Q S (fun ds hd vs B' H' F r => hok ds hd vs B' H' F ⟨r.gr, r.ow⟩) hex hst

/-! ### displays -/
def eTup (f : Env → R (List D)) : Env → R D := fun env => f env >>= fun ds => if ds.length ≤ sizeLine then .ok (.tup ds) else .stk
def eLst (f : Env → R (List D)) : Env → R D := fun env => f env >>= fun ds => if ds.length ≤ sizeLine then .ok (.own ds) else .stk
theorem sim_tup (h : SimA G W tr fr) : Sim G W none (tTup tr) (eTup fr) := fun B H env σ φ Q S hok hex hst => by
  refine h B H env σ φ _ S (fun ds hd vs B' H' F r => ?_) (fun e he cls dx B' H' rx => hex e (by show (fr env >>= _) = _; rw [he]; rfl) cls dx B' H' rx) (bind_stk hst)
  have E : eTup fr env = if ds.length ≤ sizeLine then .ok (.tup ds) else .stk := by show (fr env >>= _) = _; rw [hd]; rfl
  by_cases c : ds.length ≤ sizeLine
  · rw [if_pos c] at E
    refine ⟨by rw [← r.ow.length]; exact c, fun p hp => ?_⟩
    have g := Gr.new (o := .tup vs) r.gr.bh hp
    have pF : p ∉ F := fun z => by obtain ⟨o, q⟩ := r.ow.dom p z; rw [hp] at q; cases q
    refine hok (.tup ds) E (.ref p) _ _ F ⟨r.gr.trans g, ⟨p, vs, F, rfl, Owns.mono g.bb r.ow (fun a _ o => g.hh a o), upd_same, rfl, fun _ z => absurd rfl z⟩, r.nd, fun a ha => ?_, fun a ha => .inl (r.fr a ha)⟩
    rw [upd_ne (fun z => pF (by rw [← z]; exact ha))]
    exact r.out a ha
  · rw [if_neg c] at E; exact absurd E hst
theorem sim_lst (h : SimA G W tr fr) : Sim G W none (tLst tr) (eLst fr) := fun B H env σ φ Q S hok hex hst => by
  refine h B H env σ φ _ S (fun ds hd vs B' H' F r => ?_) (fun e he cls dx B' H' rx => hex e (by show (fr env >>= _) = _; rw [he]; rfl) cls dx B' H' rx) (bind_stk hst)
  have E : eLst fr env = if ds.length ≤ sizeLine then .ok (.own ds) else .stk := by show (fr env >>= _) = _; rw [hd]; rfl
  by_cases c : ds.length ≤ sizeLine
  · rw [if_pos c] at E
    refine ⟨by rw [← r.ow.length]; exact c, fun p hp => ?_⟩
    have g := Gr.newO (o := .lst vs) r.gr.bh hp
    have pF : p ∉ F := fun z => by obtain ⟨o, q⟩ := r.ow.dom p z; rw [hp] at q; cases q
    refine hok (.own ds) E (.ref p) B' _ (p :: F) ⟨r.gr.trans g, ⟨p, vs, F, rfl, Owns.mono (Ex.refl _) r.ow (fun a _ o => g.hh a o), ⟨upd_same, _, upd_same⟩, rfl, fun z => nomatch z⟩, List.nodup_cons.mpr ⟨pF, r.nd⟩, fun a ha => ?_, fun a ha => ?_⟩
    · rcases List.mem_cons.mp ha with rfl | ha
      · exact none_back r.gr.bh hp
      · exact r.out a ha
    · rcases List.mem_cons.mp ha with rfl | ha
      · exact .inl (none_back r.gr.hh hp)
      · exact .inl (r.fr a ha)
  · rw [if_neg c] at E; exact absurd E hst
/-- a new thing is frozen: it is shared from here on -/
def eFz (f : Env → R D) : Env → R D := fun env => f env >>= fun d => .ok (frz d)
theorem sim_fz (h : Sim G W none ta fa) : Sim G W m ta (eFz fa) := fun B H env σ φ Q S hok hex hst => by
  refine h B H env σ φ _ S (fun d hd v B1 H1 F r => ?_) (fun e he cls dx B' H' rx => hex e (by show (fa env >>= _) = _; rw [he]; rfl) cls dx B' H' rx) (bind_stk hst)
  have E : eFz fa env = .ok (frz d) := by show (fa env >>= _) = _; rw [hd]; rfl
  have hb : Ex B1 (fun a => if a ∈ F then H1 a else B1 a) := fun a o q => by
    by_cases z : a ∈ F
    · rw [r.out a z] at q; cases q
    · show (if a ∈ F then H1 a else B1 a) = some o
      rw [if_neg z]; exact q
  refine hok _ E v (fun a => if a ∈ F then H1 a else B1 a) H1 [] (.sh ⟨r.gr.hh, r.gr.bb.trans hb, fun a o q => ?_, fun a o q1 q2 => ?_⟩ (Own.frz hb r.ow (fun a ha o q => ?_)))
  · by_cases z : a ∈ F
    · have q' : (if a ∈ F then H1 a else B1 a) = some o := q
      rw [if_pos z] at q'; exact q'
    · have q' : (if a ∈ F then H1 a else B1 a) = some o := q
      rw [if_neg z] at q'; exact r.gr.bh a o q'
  · by_cases z : a ∈ F
    · exact (r.fr a z).elim id fun ⟨_, z, _⟩ => nomatch z
    · have q' : (if a ∈ F then H1 a else B1 a) = some o := q1
      rw [if_neg z] at q'; exact r.gr.nw a o q' q2
  · show (if a ∈ F then H1 a else B1 a) = some o
    rw [if_pos ha]; exact q

/-! ### built-in functions by values -/
def OpA (G : Gx) (r : List V → Hp → VK → Prop) (g : List D → R D) : Prop := ∀ B H ds vs F Q, Ex B H → Owns G B H ds vs F →
  (∀ d, g ds = .ok d → ∀ u B' H' F', Gr B H B' H' → Own G B' H' d u F' → F'.Nodup → (∀ a ∈ F', B' a = none) → (∀ a ∈ F', H a = none) → Q u H') → g ds ≠ .stk → r vs H Q
def eCB (g : List D → R D) (f : Env → R (List D)) : Env → R D := fun env => f env >>= g
theorem sim_CB {r : List V → Hp → VK → Prop} {g : List D → R D} (ho : OpA G r g) (h : SimV G W tr fr) : Sim G W none (tCB r tr) (eCB g fr) := fun B H env σ φ Q S hok hex hst => by
  refine h B H env σ φ _ S (fun ds hd vs B1 H1 F r1 => ?_) (fun e he cls dx B' H' rx => hex e (by show (fr env >>= _) = _; rw [he]; rfl) cls dx B' H' rx) (bind_stk hst)
  have E : eCB g fr env = g ds := by show (fr env >>= _) = _; rw [hd]; rfl
  exact ho B1 H1 ds vs F Q r1.gr.bh r1.ow (fun d hd u B' H' F' g' o' n' out' f' => hok d (E.trans hd) u B' H' F' ⟨r1.gr.trans g', o', n', out', fun a ha => .inl (none_back r1.gr.hh (f' a ha))⟩) (fun z => hst (E.trans z))
end
theorem opA_sc {G : Gx} {B H : Hp} {Q : VK} {r : R D} (e : Ex B H) (hok : ∀ d, r = .ok d → ∀ u B' H' F', Gr B H B' H' → Own G B' H' d u F' → F'.Nodup → (∀ a ∈ F', B' a = none) → (∀ a ∈ F', H a = none) → Q u H') (d : D) (u : V) (h : r = .ok d) (hs : scalD d u) : Q u H :=
  hok d h u B H [] (Gr.refl e) (own_scal hs) .nil (fun _ h => nomatch h) (fun _ h => nomatch h)
/-- a new list of shared things, owned by who made it -/
theorem opA_new {G : Gx} {B H : Hp} {Q : VK} {r : R D} (e : Ex B H) (hok : ∀ d, r = .ok d → ∀ u B' H' F', Gr B H B' H' → Own G B' H' d u F' → F'.Nodup → (∀ a ∈ F', B' a = none) → (∀ a ∈ F', H a = none) → Q u H') (l : List D) (xs : List V) (h : r = .ok (.own l)) (ho : Owns G B H l xs [])
    (p : Addr) (hp : H p = none) : Q (.ref p) (upd H p (.lst xs)) :=
  hok (.own l) h (.ref p) B _ [p] (Gr.newO e hp) ⟨p, xs, [], rfl, Owns.noF ho, ⟨upd_same, _, upd_same⟩, rfl, fun z => nomatch z⟩ (by simp) (fun a ha => by rw [List.mem_singleton.mp ha]; exact none_back e hp) (fun a ha => by rw [List.mem_singleton.mp ha]; exact hp)
/-- a new tuple of shared things -/
theorem opA_newT {G : Gx} {B H : Hp} {Q : VK} {r : R D} (e : Ex B H) (hok : ∀ d, r = .ok d → ∀ u B' H' F', Gr B H B' H' → Own G B' H' d u F' → F'.Nodup → (∀ a ∈ F', B' a = none) → (∀ a ∈ F', H a = none) → Q u H') (l : List D) (xs : List V) (h : r = .ok (.tup l)) (ho : Owns G B H l xs [])
    (p : Addr) (hp : H p = none) : Q (.ref p) (upd H p (.tup xs)) := by
  have g := Gr.new (o := .tup xs) e hp
  exact hok (.tup l) h (.ref p) _ _ [] g ⟨p, xs, [], rfl, Owns.mono (H := H) g.bb ho (fun _ h => nomatch h), upd_same, rfl, fun _ _ => rfl⟩ .nil (fun _ h => nomatch h) (fun _ h => nomatch h)
end DP


set_option Elab.async false
set_option linter.all false
set_option maxRecDepth 100000
set_option maxHeartbeats 4000000
namespace DP
open PySem L2 Evl

/-- the items of a list or tuple -/
def itemsOf : D → Option (List D)
  | .con _ .lst l => some l
  | .con _ .kls l => some l
  | .con _ .tup l => some l
  | _ => none
theorem items_own {G : Gx} {B H : Hp} {d : D} {v : V} {F : List Addr} {l : List D} (e : Ex B H) (h : Own G B H d v F) (q : itemsOf d = some l) : ∃ a xs F', v = .ref a ∧ (SqL G.K H a xs ∨ SqT G.K H a xs) ∧ Owns G B H l xs F' := by
  unfold itemsOf at q
  split at q <;> cases q
  · obtain ⟨a, xs, F', rfl, q2, q3, q4⟩ := h.cell e
    exact ⟨a, xs, F', rfl, .inl (SqL.of q3), q2⟩
  · obtain ⟨a, xs, F', rfl, q2, q3, q4⟩ := h.cell e
    exact ⟨a, xs, F', rfl, .inl q3, q2⟩
  · obtain ⟨a, xs, F', rfl, q2, q3, q4⟩ := h.cell e
    exact ⟨a, xs, F', rfl, .inr (SqT.of q3), q2⟩
/-- of a list alone -/
def listOf : D → Option (List D)
  | .con _ .lst l => some l
  | .con _ .kls l => some l
  | _ => none
theorem list_own {G : Gx} {B H : Hp} {d : D} {v : V} {F : List Addr} {l : List D} (e : Ex B H) (h : Own G B H d v F) (q : listOf d = some l) : ∃ a xs F', v = .ref a ∧ SqL G.K H a xs ∧ Owns G B H l xs F' := by
  unfold listOf at q
  split at q <;> cases q
  · obtain ⟨a, xs, F', rfl, q2, q3, q4⟩ := h.cell e
    exact ⟨a, xs, F', rfl, SqL.of q3, q2⟩
  · obtain ⟨a, xs, F', rfl, q2, q3, q4⟩ := h.cell e
    exact ⟨a, xs, F', rfl, q3, q2⟩
def intsOf : List D → Option (List Int)
  | [] => some []
  | .int i :: ds => (intsOf ds).map (i :: ·)
  | _ :: _ => none
theorem ints_own {G : Gx} {B H : Hp} : ∀ {ds : List D} {xs : List V} {F : List Addr} {ns : List Int}, Owns G B H ds xs F → intsOf ds = some ns → xs = ns.map V.int
  | [], _, _, ns, h, q => by cases q; rw [h.1]; rfl
  | d :: ds, _, _, ns, h, q => by
    obtain ⟨x, xs', F1, F2, e1, e2, e3, e4⟩ := h
    cases d with
    | int i =>
      simp only [intsOf, Option.map_eq_some_iff] at q
      obtain ⟨ms, q1, rfl⟩ := q
      rw [e1, e3.1, ints_own e4 q1]; rfl
    | _ => cases q
theorem intsOf_map (ns : List Int) : intsOf (ns.map D.int) = some ns := by
  induction ns with
  | nil => rfl
  | cons a r ih => simp [intsOf, ih]

section
variable {G : Gx}
theorem owns1 {B H : Hp} {d : D} {vs : List V} {F : List Addr} (h : Owns G B H [d] vs F) : ∃ v, vs = [v] ∧ Own G B H d v F := by
  obtain ⟨x, xs', F1, F2, e1, e2, e3, e4⟩ := h
  obtain ⟨rfl, rfl⟩ := e4
  exact ⟨x, e1, by rw [e2, List.append_nil]; exact e3⟩
theorem owns2 {B H : Hp} {d e : D} {vs : List V} {F : List Addr} (h : Owns G B H [d, e] vs F) : ∃ v w F1 F2, vs = [v, w] ∧ Own G B H d v F1 ∧ Own G B H e w F2 := by
  obtain ⟨x, xs', F1, F2, e1, e2, e3, e4⟩ := h
  obtain ⟨w, rfl, q⟩ := owns1 e4
  exact ⟨x, w, F1, F2, e1, e3, q⟩

def pLen : List D → R D
  | [d] => match itemsOf d with
    | some l => .ok (.int l.length)
    | none => match d with
      | .str s => if s.length ≤ sizeLine then .ok (.int s.length) else .stk
      | _ => .stk
  | _ => .stk
def rLenA (K : PySem.W.Frag) : List V → Hp → VK → Prop := fun xs H Q => (∃ p ys, xs = [.ref p] ∧ (SqL K H p ys ∨ SqT K H p ys) ∧ Q (.int ys.length) H) ∨ (∃ z, xs = [.str z] ∧ z.length ≤ sizeLine ∧ Q (.int z.length) H)
theorem cr_len {X : Cx} : CallR X (.builtin "len") (rLenA X.K) := call_len_seq.or call_len_str
theorem opA_len : OpA G (rLenA G.K) pLen := by
  intro B H ds vs F Q e h hok hst
  have sc := opA_sc e hok
  match ds, h with
  | [], _ => exact absurd rfl hst
  | _ :: _ :: _, _ => exact absurd rfl hst
  | [d], h =>
    obtain ⟨v, rfl, ho⟩ := owns1 h
    cases q : itemsOf d with
    | some l =>
      obtain ⟨a, xs, F', rfl, q2, q3⟩ := items_own e ho q
      exact .inl ⟨a, xs, rfl, q2, by rw [← q3.length]; exact sc (.int l.length) _ (by simp only [pLen, q]) rfl⟩
    | none =>
      cases d with
      | str s =>
        by_cases c : s.length ≤ sizeLine
        · obtain ⟨rfl, _⟩ := ho
          exact .inr ⟨s, rfl, c, sc (.int s.length) _ (by simp only [pLen, q, if_pos c]) rfl⟩
        · exact absurd (by simp only [pLen, q, if_neg c]) hst
      | _ => exact absurd (by simp only [pLen, q]) hst
def pAbs : List D → R D
  | [.int i] => .ok (.int (if i < 0 then -i else i))
  | _ => .stk
theorem opA_abs : OpA G (fun xs H Q => ∃ i, xs = [.int i] ∧ Q (.int (if i < 0 then -i else i)) H) pAbs := by
  intro B H ds vs F Q e h hok hst
  have sc := opA_sc e hok
  unfold pAbs at hst sc
  split at hst
  · rename_i i
    obtain ⟨v, rfl, rfl, _⟩ := owns1 h
    exact ⟨i, rfl, sc _ (.int (if i < 0 then -i else i)) rfl rfl⟩
  · exact absurd rfl hst
def pInt : List D → R D
  | [.int i] => .ok (.int i)
  | _ => .stk
theorem opA_int : OpA G (fun xs H Q => (∃ i, xs = [.int i] ∧ Q (.int i) H) ∨ ∃ k, xs = [.bl k] ∧ Q (.int (if k then 1 else 0)) H) pInt := by
  intro B H ds vs F Q e h hok hst
  have sc := opA_sc e hok
  unfold pInt at hst sc
  split at hst
  · rename_i i
    obtain ⟨v, rfl, rfl, _⟩ := owns1 h
    exact .inl ⟨i, rfl, sc _ (.int i) rfl rfl⟩
  · exact absurd rfl hst
def pMax2 : List D → R D
  | [.int i, .int j] => .ok (.int (if j > i then j else i))
  | _ => .stk
def pMin2 : List D → R D
  | [.int i, .int j] => .ok (.int (if j < i then j else i))
  | _ => .stk
theorem opA_max2 : OpA G (fun xs H Q => ∃ i j, xs = [.int i, .int j] ∧ Q (.int (if j > i then j else i)) H) pMax2 := by
  intro B H ds vs F Q e h hok hst
  have sc := opA_sc e hok
  unfold pMax2 at hst sc
  split at hst
  · rename_i i j
    obtain ⟨v, w, F1, F2, rfl, ⟨rfl, _⟩, rfl, _⟩ := owns2 h
    exact ⟨i, j, rfl, sc _ (.int (if j > i then j else i)) rfl rfl⟩
  · exact absurd rfl hst
theorem opA_min2 : OpA G (fun xs H Q => ∃ i j, xs = [.int i, .int j] ∧ Q (.int (if j < i then j else i)) H) pMin2 := by
  intro B H ds vs F Q e h hok hst
  have sc := opA_sc e hok
  unfold pMin2 at hst sc
  split at hst
  · rename_i i j
    obtain ⟨v, w, F1, F2, rfl, ⟨rfl, _⟩, rfl, _⟩ := owns2 h
    exact ⟨i, j, rfl, sc _ (.int (if j < i then j else i)) rfl rfl⟩
  · exact absurd rfl hst
def maxI : List Int → Int
  | [] => 0
  | a :: r => r.foldl (fun m x => if x > m then x else m) a
def minI : List Int → Int
  | [] => 0
  | a :: r => r.foldl (fun m x => if x < m then x else m) a
theorem foldmax (r : List Int) : ∀ a, a ≤ r.foldl (fun m x => if x > m then x else m) a ∧ (∀ y ∈ r, y ≤ r.foldl (fun m x => if x > m then x else m) a) ∧ (r.foldl (fun m x => if x > m then x else m) a = a ∨ r.foldl (fun m x => if x > m then x else m) a ∈ r) := by
  induction r with
  | nil => intro a; simp
  | cons b r ih =>
    intro a
    simp only [List.foldl_cons]
    obtain ⟨h1, h2, h3⟩ := ih (if b > a then b else a)
    have hb : b ≤ (if b > a then b else a) ∧ a ≤ (if b > a then b else a) := by split <;> omega
    refine ⟨by omega, fun y hy => ?_, ?_⟩
    · rcases List.mem_cons.mp hy with rfl | hy
      · omega
      · exact h2 y hy
    · rcases h3 with h3 | h3
      · rw [h3]; split
        · exact .inr List.mem_cons_self
        · exact .inl rfl
      · exact .inr (List.mem_cons_of_mem _ h3)
theorem foldmin (r : List Int) : ∀ a, r.foldl (fun m x => if x < m then x else m) a ≤ a ∧ (∀ y ∈ r, r.foldl (fun m x => if x < m then x else m) a ≤ y) ∧ (r.foldl (fun m x => if x < m then x else m) a = a ∨ r.foldl (fun m x => if x < m then x else m) a ∈ r) := by
  induction r with
  | nil => intro a; simp
  | cons b r ih =>
    intro a
    simp only [List.foldl_cons]
    obtain ⟨h1, h2, h3⟩ := ih (if b < a then b else a)
    have hb : (if b < a then b else a) ≤ b ∧ (if b < a then b else a) ≤ a := by split <;> omega
    refine ⟨by omega, fun y hy => ?_, ?_⟩
    · rcases List.mem_cons.mp hy with rfl | hy
      · omega
      · exact h2 y hy
    · rcases h3 with h3 | h3
      · rw [h3]; split
        · exact .inr List.mem_cons_self
        · exact .inl rfl
      · exact .inr (List.mem_cons_of_mem _ h3)
theorem maxI_spec {ns : List Int} (h : ns ≠ []) : maxI ns ∈ ns ∧ ∀ y ∈ ns, y ≤ maxI ns := by
  cases ns with
  | nil => exact absurd rfl h
  | cons a r =>
    obtain ⟨h1, h2, h3⟩ := foldmax r a
    refine ⟨?_, fun y hy => ?_⟩
    · rcases h3 with h3 | h3
      · show r.foldl _ a ∈ _; rw [h3]; exact List.mem_cons_self
      · exact List.mem_cons_of_mem _ h3
    · rcases List.mem_cons.mp hy with rfl | hy
      · exact h1
      · exact h2 y hy
theorem minI_spec {ns : List Int} (h : ns ≠ []) : minI ns ∈ ns ∧ ∀ y ∈ ns, minI ns ≤ y := by
  cases ns with
  | nil => exact absurd rfl h
  | cons a r =>
    obtain ⟨h1, h2, h3⟩ := foldmin r a
    refine ⟨?_, fun y hy => ?_⟩
    · rcases h3 with h3 | h3
      · show r.foldl _ a ∈ _; rw [h3]; exact List.mem_cons_self
      · exact List.mem_cons_of_mem _ h3
    · rcases List.mem_cons.mp hy with rfl | hy
      · exact h1
      · exact h2 y hy
def pMaxL : List D → R D
  | [d] => match (listOf d).bind intsOf with
    | some ns => if 0 < ns.length then .ok (.int (maxI ns)) else .stk
    | none => .stk
  | _ => .stk
def pMinL : List D → R D
  | [d] => match (listOf d).bind intsOf with
    | some ns => if 0 < ns.length then .ok (.int (minI ns)) else .stk
    | none => .stk
  | _ => .stk
def pSum : List D → R D
  | [d] => match (listOf d).bind intsOf with
    | some ns => .ok (.int ns.sum)
    | none => .stk
  | _ => .stk
theorem ints_list {B H : Hp} {d : D} {v : V} {F : List Addr} {ns : List Int} (e : Ex B H) (h : Own G B H d v F) (q : (listOf d).bind intsOf = some ns) : ∃ a, v = .ref a ∧ SqL G.K H a (ns.map V.int) := by
  simp only [Option.bind_eq_some_iff] at q
  obtain ⟨l, q1, q2⟩ := q
  obtain ⟨a, xs, F', rfl, q3, q4⟩ := list_own e h q1
  exact ⟨a, rfl, by rw [← ints_own q4 q2]; exact q3⟩
theorem opA_maxL : OpA G (rMax G.K) pMaxL := by
  intro B H ds vs F Q e h hok hst
  have sc := opA_sc e hok
  match ds, h with
  | [], _ => exact absurd rfl hst
  | _ :: _ :: _, _ => exact absurd rfl hst
  | [d], h =>
    obtain ⟨v, rfl, ho⟩ := owns1 h
    cases q : (listOf d).bind intsOf with
    | none => exact absurd (by simp only [pMaxL, q]) hst
    | some ns =>
      by_cases c : 0 < ns.length
      · obtain ⟨a, rfl, q3⟩ := ints_list e ho q
        have ne : ns ≠ [] := fun z => by rw [z] at c; exact absurd c (by simp)
        refine ⟨a, ns, rfl, q3, c, fun m' hm hx => ?_⟩
        obtain ⟨s1, s2⟩ := maxI_spec ne
        have : m' = maxI ns := Int.le_antisymm (s2 m' hm) (hx _ s1)
        rw [this]
        exact sc (.int (maxI ns)) _ (by simp only [pMaxL, q, if_pos c]) rfl
      · exact absurd (by simp only [pMaxL, q, if_neg c]) hst
theorem opA_minL : OpA G (rMin G.K) pMinL := by
  intro B H ds vs F Q e h hok hst
  have sc := opA_sc e hok
  match ds, h with
  | [], _ => exact absurd rfl hst
  | _ :: _ :: _, _ => exact absurd rfl hst
  | [d], h =>
    obtain ⟨v, rfl, ho⟩ := owns1 h
    cases q : (listOf d).bind intsOf with
    | none => exact absurd (by simp only [pMinL, q]) hst
    | some ns =>
      by_cases c : 0 < ns.length
      · obtain ⟨a, rfl, q3⟩ := ints_list e ho q
        have ne : ns ≠ [] := fun z => by rw [z] at c; exact absurd c (by simp)
        refine ⟨a, ns, rfl, q3, c, fun m' hm hx => ?_⟩
        obtain ⟨s1, s2⟩ := minI_spec ne
        have : m' = minI ns := Int.le_antisymm (hx _ s1) (s2 m' hm)
        rw [this]
        exact sc (.int (minI ns)) _ (by simp only [pMinL, q, if_pos c]) rfl
      · exact absurd (by simp only [pMinL, q, if_neg c]) hst
theorem opA_sum : OpA G (rSum G.K) pSum := by
  intro B H ds vs F Q e h hok hst
  have sc := opA_sc e hok
  match ds, h with
  | [], _ => exact absurd rfl hst
  | _ :: _ :: _, _ => exact absurd rfl hst
  | [d], h =>
    obtain ⟨v, rfl, ho⟩ := owns1 h
    cases q : (listOf d).bind intsOf with
    | none => exact absurd (by simp only [pSum, q]) hst
    | some ns =>
      obtain ⟨a, rfl, q3⟩ := ints_list e ho q
      exact ⟨a, ns, rfl, q3, sc (.int ns.sum) _ (by simp only [pSum, q]) rfl⟩
/-- list(x), tuple(x) of a list or tuple of shared things -/
def pList : List D → R D
  | [d] => match itemsOf d with
    | some l => if shds l = true then .ok (.own l) else .stk
    | none => .stk
  | _ => .stk
theorem opA_list : OpA G (fun xs H Q => ∃ p ys, xs = [.ref p] ∧ (SqL G.K H p ys ∨ SqT G.K H p ys) ∧ ∀ l, H l = none → Q (.ref l) (upd H l (.lst ys))) pList := by
  intro B H ds vs F Q e h hok hst
  match ds, h with
  | [], _ => exact absurd rfl hst
  | _ :: _ :: _, _ => exact absurd rfl hst
  | [d], h =>
    obtain ⟨v, rfl, ho⟩ := owns1 h
    cases q : itemsOf d with
    | none => exact absurd (by simp only [pList, q]) hst
    | some l =>
      by_cases c : shds l = true
      · obtain ⟨a, xs, F', rfl, q2, q3⟩ := items_own e ho q
        have := q3.shd c
        subst this
        exact ⟨a, xs, rfl, q2, fun p hp => opA_new e hok l xs (by simp only [pList, q, if_pos c]) q3 p hp⟩
      · exact absurd (by simp only [pList, q, if_neg c]) hst
def pTuple : List D → R D
  | [d] => match listOf d with
    | some l => if shds l = true then .ok (.tup l) else .stk
    | none => match d with
      | .con false .tup l => if shds l = true then .ok (.tup l) else .stk
      | _ => .stk
  | _ => .stk
theorem opA_tuple : OpA G (fun xs H Q => ∃ p ys, xs = [.ref p] ∧ ((SqL G.K H p ys ∧ ∀ l, H l = none → Q (.ref l) (upd H l (.tup ys))) ∨ (SqT G.K H p ys ∧ Q (.ref p) H))) pTuple := by
  intro B H ds vs F Q e h hok hst
  match ds, h with
  | [], _ => exact absurd rfl hst
  | _ :: _ :: _, _ => exact absurd rfl hst
  | [d], h =>
    obtain ⟨v, rfl, ho⟩ := owns1 h
    cases q : listOf d with
    | none =>
      match d, ho with
      | .con false .tup l, ho =>
        by_cases c : shds l = true
        · have z : DP.shd (.con false .tup l) = true := by simp only [DP.shd, Bool.not_false, Bool.true_and]; exact c
          have := ho.shd z
          subst this
          obtain ⟨a, xs, F', rfl, q2, q3, q4⟩ := ho.cell e
          exact ⟨a, xs, rfl, .inr ⟨SqT.of q3, hok (.tup l) (by simp only [pTuple, q, if_pos c]) _ B H [] (Gr.refl e) ho .nil (fun _ h => nomatch h) (fun _ h => nomatch h)⟩⟩
        · exact absurd (by simp only [pTuple, q, if_neg c]) hst
      | .con true .tup l, ho => exact absurd (by simp only [pTuple, q]) hst
      | .con o (.dct ks) l, ho => exact absurd (by simp only [pTuple, q]) hst
      | .con o (.dtt ks) l, ho => exact absurd (by simp only [pTuple, q]) hst
      | .con o (.obj c ns) l, ho => exact absurd (by simp only [pTuple, q]) hst
      | .unk, ho => exact absurd (by simp only [pTuple, q]) hst
      | .non, ho => exact absurd (by simp only [pTuple, q]) hst
      | .bl _, ho => exact absurd (by simp only [pTuple, q]) hst
      | .int _, ho => exact absurd (by simp only [pTuple, q]) hst
      | .str _, ho => exact absurd (by simp only [pTuple, q]) hst
      | .rf _, ho => exact absurd (by simp only [pTuple, q]) hst
      | .con o .lst l, ho => cases q
      | .con o .kls l, ho => cases q
    | some l =>
      by_cases c : shds l = true
      · obtain ⟨a, xs, F', rfl, q2, q3⟩ := list_own e ho q
        have := q3.shd c
        subst this
        exact ⟨a, xs, rfl, .inl ⟨q2, fun p hp => opA_newT e hok l xs (by simp only [pTuple, q, if_pos c]) q3 p hp⟩⟩
      · exact absurd (by simp only [pTuple, q, if_neg c]) hst
end

/-! ### isinstance(x, T), T a built-in class -/
def tyName : D → Option String
  | .non => some "NoneType"
  | .bl _ => some "bool"
  | .int _ => some "int"
  | .str _ => some "str"
  | .con _ .lst _ => some "list"
  | .con _ .tup _ => some "tuple"
  | .con _ (.dct _) _ => some "dict"
  | .con _ (.dtt _) _ => some "dict"
  | _ => none
def isiB (T : String) (t : String) : Bool := t == T || (t == "bool" && T == "int")
def pIsi (T : String) (d : D) : R D := match tyName d with
  | some t => .ok (.bl (isiB T t))
  | none => .stk
theorem ty_own {G : Gx} {B H : Hp} {d : D} {v : V} {F : List Addr} {t : String} (e : Ex B H) (h : Own G B H d v F) (q : tyName d = some t) : TyX G.K H v (.type t) := by
  cases d with
  | unk => cases q
  | rf a => cases q
  | non => rw [h.1]; cases q; exact .base .non
  | bl c => rw [h.1]; cases q; exact .base (.bl c)
  | int c => rw [h.1]; cases q; exact .base (.int c)
  | str c => rw [h.1]; cases q; exact .base (.str c)
  | con o k l =>
    obtain ⟨a, xs, F', rfl, q2, q3, q4⟩ := h.cell e
    cases k with
    | lst => cases q; exact .base (.lst q3)
    | kls => cases q
    | tup => cases q; exact .base (.tup q3)
    | dct ks => cases q; exact .base (.dK q3.2)
    | dtt ks => cases q; exact .base (.dT q3.2)
    | obj c ns => cases q
/-- T among the built-in classes that are asked for -/
def isiT : List String := ["int", "bool", "str", "list", "tuple", "dict"]
theorem kit_isi {T : String} (hT : T ∈ isiT) {d : D} {t : String} (q : tyName d = some t) : kitB t T = some (isiB T t) := by
  have ht : t ∈ ["NoneType", "bool", "int", "str", "list", "tuple", "dict"] := by
    unfold tyName at q
    split at q <;> first | (cases q; decide) | cases q
  have all : ∀ T ∈ isiT, ∀ t ∈ ["NoneType", "bool", "int", "str", "list", "tuple", "dict"], kitB t T = some (isiB T t) := by decide +kernel
  exact all T hT t ht
def eIsi (T : String) (f : Env → R D) : Env → R D := fun env => f env >>= pIsi T
theorem sim_isi {G : Gx} {W : WX} {m m1 : Option Nat} {ta : TE} {fa : Env → R D} {T : String} (hT : T ∈ isiT) (h : Sim G W m1 ta fa) : Sim G W m (tCB (rIsi G.K) (tCons ta (tCons (tC (.ty T)) tNil))) (eIsi T fa) := fun B H env σ φ Q S hok hex hst => by
  refine h B H env σ φ _ S (fun d hd v B1 H1 F r => ?_) (fun e he cls dx B' H' r => hex e (by show (fa env >>= _) = _; rw [he]; rfl) cls dx B' H' r) (bind_stk hst)
  have E : eIsi T fa env = pIsi T d := by show (fa env >>= _) = _; rw [hd]; rfl
  cases q : tyName d with
  | none => exact absurd (by rw [E]; simp only [pIsi, q]) hst
  | some t =>
    refine ⟨v, .ty T, .type t, .type T, isiB T t, rfl, .ty T, ty_own r.gr.bh r.ow q, kit_ty (kit_isi hT q), ?_⟩
    exact hok (.bl (isiB T t)) (by rw [E]; simp only [pIsi, q]) _ B1 H1 [] (.sh r.gr ⟨rfl, rfl⟩)
end DP


set_option Elab.async false
set_option linter.all false
set_option maxRecDepth 100000
set_option maxHeartbeats 4000000
namespace DP
open PySem L2 Evl

/-! ### targets -/
def SimG (G : Gx) (sl : List Nat) (g : TG) (f : D → Env → R Env) : Prop := ∀ B H env σ φ d v Q, Sta G B H env σ φ → Own G B H d v [] →
  (∀ env', f d env = .ok env' → ∀ σ' φ', Sta G B H env' σ' φ' → (∀ j, φ' j = φ j ∨ (φ' j = [] ∧ j ∈ sl)) → (∀ j, j ∉ sl → σ'[j]? = σ[j]? ∧ env'[j]? = env[j]?) → σ'.length = σ.length → Q σ' H) → (∀ e, f d env ≠ .exc e) → f d env ≠ .stk → g v σ H Q
def SimGs (G : Gx) (sl : List Nat) (g : TGs) (f : List D → Env → R Env) : Prop := ∀ B H env σ φ ds vs Q, Sta G B H env σ φ → Owns G B H ds vs [] →
  (∀ env', f ds env = .ok env' → ∀ σ' φ', Sta G B H env' σ' φ' → (∀ j, φ' j = φ j ∨ (φ' j = [] ∧ j ∈ sl)) → (∀ j, j ∉ sl → σ'[j]? = σ[j]? ∧ env'[j]? = env[j]?) → σ'.length = σ.length → Q σ' H) → (∀ e, f ds env ≠ .exc e) → f ds env ≠ .stk → g vs σ H Q
def bName (i : Nat) : D → Env → R Env := fun d env => .ok (env.set i d)
def bNil : List D → Env → R Env := fun ds env => if ds.isEmpty then .ok env else .stk
def bCons (b : D → Env → R Env) (bs : List D → Env → R Env) : List D → Env → R Env := fun ds env => match ds with
  | [] => .stk
  | d :: r => b d env >>= bs r
def bTup (n : Nat) (bs : List D → Env → R Env) : D → Env → R Env := fun d env => match d with
  | .con false .tup l => if l.length = n then bs l env else .stk
  | _ => .stk
section
variable {G : Gx}
/-- a slot takes a value -/
theorem Sta.set {B H : Hp} {env : Env} {σ : L2.St} {φ : Nat → List Addr} {i : Nat} {d : D} {v : V} {F : List Addr} (S : Sta G B H env σ φ) (o : Own G B H d v F) (nd : F.Nodup) (out : ∀ a ∈ F, B a = none) (dj : ∀ j, j ≠ i → ∀ a ∈ F, a ∉ φ j) :
    Sta G B H (env.set i d) (σ.set i (some v)) (fun j => if j = i then F else φ j) where
  ex := S.ex
  len := by rw [List.length_set, List.length_set]; exact S.len
  slot := fun j e h => by
    by_cases q : j = i
    · subst q
      by_cases hl : j < env.length
      · rw [List.getElem?_set_self hl] at h
        cases h
        exact .inr ⟨v, List.getElem?_set_self (by rw [← S.len]; exact hl), by rw [if_pos rfl]; exact o⟩
      · rw [List.getElem?_eq_none (by rw [List.length_set]; omega)] at h; cases h
    · rw [List.getElem?_set_ne (Ne.symm q)] at h
      rw [if_neg q, List.getElem?_set_ne (Ne.symm q)]
      exact S.slot j e h
  nd := fun j => by
    show (if j = i then F else φ j).Nodup
    split
    · exact nd
    · exact S.nd j
  dj := fun j k hjk a ha hb => by
    have ha' : a ∈ (if j = i then F else φ j) := ha
    have hb' : a ∈ (if k = i then F else φ k) := hb
    by_cases q : j = i
    · rw [if_pos q] at ha'
      rw [if_neg (fun z => hjk (q.trans z.symm))] at hb'
      exact dj k (fun z => hjk (q.trans z.symm)) a ha' hb'
    · rw [if_neg q] at ha'
      by_cases q2 : k = i
      · rw [if_pos q2] at hb'; exact dj j q a hb' ha'
      · rw [if_neg q2] at hb'; exact S.dj j k hjk a ha' hb'
  out := fun j a ha => by
    have ha' : a ∈ (if j = i then F else φ j) := ha
    split at ha'
    · exact out a ha'
    · exact S.out j a ha'
  dom := fun j a ha => by
    have ha' : a ∈ (if j = i then F else φ j) := ha
    split at ha'
    · exact o.dom a ha'
    · exact S.dom j a ha'
theorem sim_name {i : Nat} : SimG G [i] (gName i) (bName i) := fun B H env σ φ d v Q S o hok hex hst =>
  hok _ rfl _ _ (S.set o .nil (fun _ h => nomatch h) (fun _ _ _ h => nomatch h)) (fun j => by
    show (if j = i then [] else φ j) = φ j ∨ _
    by_cases q : j = i
    · exact .inr ⟨if_pos q, by simp [q]⟩
    · exact .inl (if_neg q)) (fun j hj => by
    have : i ≠ j := fun z => hj (by simp [z])
    exact ⟨List.getElem?_set_ne this, List.getElem?_set_ne this⟩) (by simp)
theorem sims_nil : SimGs G [] gNil bNil := fun B H env σ φ ds vs Q S o hok hex hst => by
  cases ds with
  | nil =>
    obtain ⟨rfl, _⟩ := o
    exact ⟨rfl, hok env rfl σ φ S (fun _ => .inl rfl) (fun _ _ => ⟨rfl, rfl⟩) rfl⟩
  | cons d ds => exact absurd rfl hst
theorem sims_cons {sl sl2 : List Nat} {g : TG} {gs : TGs} {b : D → Env → R Env} {bs : List D → Env → R Env} (h : SimG G sl g b) (h' : SimGs G sl2 gs bs) : SimGs G (sl ++ sl2) (gCons g gs) (bCons b bs) := fun B H env σ φ ds vs Q S o hok hex hst => by
  cases ds with
  | nil => exact absurd rfl hst
  | cons d ds =>
    obtain ⟨x, xs', F1, F2, rfl, e2, e3, e4⟩ := o
    obtain ⟨rfl, rfl⟩ := List.append_eq_nil_iff.mp e2.symm
    have E : bCons b bs (d :: ds) env = (b d env >>= bs ds) := rfl
    refine ⟨x, xs', rfl, ?_⟩
    refine h B H env σ φ d x _ S e3 (fun env1 he1 σ1 φ1 S1 p1 k1 l1 => ?_) (fun e z => hex e (by rw [E, z]; rfl)) (bind_stk hst)
    have E1 : bCons b bs (d :: ds) env = bs ds env1 := by rw [E, he1]; rfl
    refine h' B H env1 σ1 φ1 ds xs' Q S1 e4 (fun env2 he2 σ2 φ2 S2 p2 k2 l2 => ?_) (fun e z => hex e (E1.trans z)) (fun z => hst (E1.trans z))
    refine hok env2 (E1.trans he2) σ2 φ2 S2 (fun j => ?_) (fun j hj => ?_) (l2.trans l1)
    · rcases p2 j with q | ⟨q, q'⟩
      · rcases p1 j with z | ⟨z, z'⟩
        · exact .inl (q.trans z)
        · exact .inr ⟨q.trans z, List.mem_append_left _ z'⟩
      · exact .inr ⟨q, List.mem_append_right _ q'⟩
    · have a1 := k1 j (fun z => hj (List.mem_append_left _ z))
      have a2 := k2 j (fun z => hj (List.mem_append_right _ z))
      exact ⟨a2.1.trans a1.1, a2.2.trans a1.2⟩
theorem sim_gtup {sl : List Nat} {gs : TGs} {bs : List D → Env → R Env} {n : Nat} (h : SimGs G sl gs bs) : SimG G sl (gTup G.K n gs) (bTup n bs) := fun B H env σ φ d v Q S o hok hex hst => by
  have no : ∀ d, (∀ l, d ≠ .con false .tup l) → bTup n bs d env = .stk := fun d hd => by
    unfold bTup; split
    · rename_i l; exact absurd rfl (hd l)
    · rfl
  by_cases q : ∃ l, d = .con false .tup l
  · obtain ⟨l, rfl⟩ := q
    obtain ⟨a, xs, F', rfl, q2, q3, q4⟩ := o.cell S.ex
    have z : F' = [] := q4.symm
    subst z
    have E : bTup n bs (.con false .tup l) env = if l.length = n then bs l env else .stk := rfl
    by_cases c : l.length = n
    · rw [if_pos c] at E
      exact ⟨a, xs, rfl, SqT.of q3, by rw [← q2.length]; exact c, h B H env σ φ l xs Q S q2 (fun env' he' => hok env' (E.trans he')) (fun e z => hex e (E.trans z)) (fun z => hst (E.trans z))⟩
    · rw [if_neg c] at E; exact absurd E hst
  · exact absurd (no d fun l hl => q ⟨l, hl⟩) hst
end

/-! ### what is walked -/
structure Lt (Fs : List Addr) (B H B' H' : Hp) : Prop where
  bb : Ex B B'
  bh : Ex B' H'
  fs : ∀ a ∈ Fs, ∀ o, H a = some o → H' a = some o
theorem Lt.refl {Fs : List Addr} {B H : Hp} (e : Ex B H) : Lt Fs B H B H := ⟨Ex.refl B, e, fun _ _ _ h => h⟩
theorem Gr.lt {Fs : List Addr} {B H B' H' : Hp} (g : Gr B H B' H') : Lt Fs B H B' H' := ⟨g.bb, g.bh, fun a _ o => g.hh a o⟩
theorem Lt.trans {Fs : List Addr} {B H B1 H1 B2 H2 : Hp} (a : Lt Fs B H B1 H1) (b : Lt Fs B1 H1 B2 H2) : Lt Fs B H B2 H2 := ⟨a.bb.trans b.bb, b.bh, fun c hc o h => b.fs c hc o (a.fs c hc o h)⟩
structure Yld (G : Gx) (Fs : List Addr) (B H : Hp) (J : It) (ds : List D) : Prop where
  go : ∀ i B' H', Lt Fs B H B' H' → i < ds.length → J.go i H'
  yl : ∀ i v B' H' H'', Lt Fs B H B' H' → i < ds.length → J.yld i H' v H'' → ∃ d B'', ds[i]? = some d ∧ Gr B' H' B'' H'' ∧ Own G B'' H'' d v []
  st : ∀ i B' H', Lt Fs B H B' H' → ds.length ≤ i → J.stop i H'
def SimI (G : Gx) (W : WX) (m : Option Nat) (wi : TI) (f : Env → R (List D)) : Prop := ∀ B H env σ φ R, Sta G B H env σ φ →
  (∀ ds, f env = .ok ds → ∀ J B' H' Fs, Gr B H B' H' → Yld G Fs B' H' J ds → (∀ a ∈ Fs, (∃ o, H' a = some o) ∧ (H a = none ∨ ∃ r, m = some r ∧ a ∈ φ r)) → R J H') →
  (∀ e, f env = .exc e → ∀ cls dx B' H', Rx G B H B' H' e cls dx → W cls dx σ H') →
  f env ≠ .stk → wi σ H R
section
variable {G : Gx} {W : WX} {m m1 m2 : Option Nat} {t ta tb tc : TE} {fa fb fc : Env → R D} {tr : TA} {fr : Env → R (List D)}
/-- a list whose items are shared -/
def itL (x : D) : R (List D) := match listOf x with
  | some l => if shds l = true then .ok l else .stk
  | none => .stk
def itT (x : D) : R (List D) := match x with
  | .con false .tup l => if shds l = true then .ok l else .stk
  | _ => .stk
def cIt (g : D → R (List D)) (f : Env → R D) : Env → R (List D) := fun env => f env >>= g
theorem itL_noexc {x : D} {e : Exc} : itL x ≠ .exc e := by unfold itL; split <;> (try split) <;> exact fun h => nomatch h
theorem itT_noexc {x : D} {e : Exc} : itT x ≠ .exc e := by unfold itT; split <;> (try split) <;> exact fun h => nomatch h
theorem own_at {B H : Hp} {l : List D} {xs : List V} {i : Nat} {x : V} (h : Owns G B H l xs []) (e : xs[i]? = some x) : ∃ d, l[i]? = some d ∧ Own G B H d x [] := by
  obtain ⟨d, F1, q1, q2, q3⟩ := h.get_of e
  rw [List.sublist_nil.mp q3] at q2
  exact ⟨d, q1, q2⟩
theorem list_cell {B H : Hp} {d : D} {v : V} {F : List Addr} {l : List D} (e : Ex B H) (h : Own G B H d v F) (q : itL d = .ok l) : ∃ a xs, v = .ref a ∧ Owns G B H l xs [] ∧ ∀ B' H', Lt F B H B' H' → SqL G.K H' a xs := by
  unfold itL at q
  split at q
  · rename_i l' hl
    split at q
    · rename_i c
      cases q
      unfold listOf at hl
      split at hl <;> cases hl
      · rename_i o
        obtain ⟨a, xs, F', e1, e2, e3, e4, e5⟩ := h
        have := e2.shd c
        subst this
        refine ⟨a, xs, e1, e2, fun B' H' lt => ?_⟩
        cases o with
        | true => exact SqL.of (lt.fs a (by rw [e4]; exact List.mem_cons_self) _ e3.1)
        | false => exact SqL.of (lt.bh a _ (lt.bb a _ e3))
      · rename_i o
        obtain ⟨a, xs, F', e1, e2, e3, e4, e5⟩ := h
        have := e2.shd c
        subst this
        refine ⟨a, xs, e1, e2, fun B' H' lt => ?_⟩
        cases o with
        | true =>
          obtain ⟨c1, ho, c2⟩ := e3
          exact CellIs.ex (k := .kls) c1 (fun o => lt.fs a (by rw [e4]; exact List.mem_cons_self) o)
        | false => exact CellIs.ex (k := .kls) (M := B) e3 (fun o q => lt.bh a _ (lt.bb a _ q))
    · cases q
  · cases q
theorem sim_itL (h : Sim G W m ta fa) : SimI G W m (iList G.K ta) (cIt itL fa) := fun B H env σ φ R S hok hex hst => by
  refine h B H env σ φ _ S (fun d hd v B1 H1 F r => ?_) (fun e he cls dx B' H' rx => hex e (by show (fa env >>= _) = _; rw [he]; rfl) cls dx B' H' rx) (bind_stk hst)
  have E : cIt itL fa env = itL d := by show (fa env >>= _) = _; rw [hd]; rfl
  cases q : itL d with
  | stk => exact absurd (E.trans q) hst
  | exc e => exact absurd q itL_noexc
  | ok l =>
    obtain ⟨a, xs, rfl, q2, q3⟩ := list_cell r.gr.bh r.ow q
    refine ⟨a, rfl, ⟨xs, q3 B1 H1 (Lt.refl r.gr.bh)⟩, hok l (E.trans q) _ B1 H1 F r.gr ⟨fun i B' H' lt hi => ?_, fun i v B' H' H'' lt hi y => ?_, fun i B' H' lt hi => ?_⟩ (fun a ha => ⟨r.ow.dom a ha, r.fr a ha⟩)⟩
    · have hi' : i < xs.length := by rw [← q2.length]; exact hi
      exact ⟨xs, xs[i], q3 B' H' lt, by simp [hi']⟩
    · obtain ⟨rfl, y⟩ := y
      obtain ⟨d', z1, z2⟩ := own_at q2 (y xs (q3 B' _ lt))
      exact ⟨d', B', z1, Gr.refl lt.bh, Own.noF (Own.mono (H' := H1) lt.bb z2 (fun _ h => nomatch h))⟩
    · exact ⟨xs, q3 B' H' lt, by rw [← q2.length]; exact hi⟩
theorem sim_itT (h : Sim G W m ta fa) : SimI G W m (iTup G.K ta) (cIt itT fa) := fun B H env σ φ R S hok hex hst => by
  refine h B H env σ φ _ S (fun d hd v B1 H1 F r => ?_) (fun e he cls dx B' H' rx => hex e (by show (fa env >>= _) = _; rw [he]; rfl) cls dx B' H' rx) (bind_stk hst)
  have E : cIt itT fa env = itT d := by show (fa env >>= _) = _; rw [hd]; rfl
  by_cases z : ∃ l, d = .con false .tup l
  · obtain ⟨l, rfl⟩ := z
    have E2 : cIt itT fa env = if shds l = true then .ok l else .stk := E
    by_cases c : shds l = true
    · rw [if_pos c] at E2
      have sd : DP.shd (.con false .tup l) = true := by simp only [DP.shd, Bool.not_false, Bool.true_and]; exact c
      have := r.ow.shd sd
      subst this
      obtain ⟨a, xs, F', e1, q2, e3, e4, e5⟩ := r.ow
      have z : F' = [] := e4.symm
      subst z
      have q3 : ∀ B' H', Lt [] B1 H1 B' H' → SqT G.K H' a xs := fun B' H' lt => SqT.of (lt.bh a _ (lt.bb a _ e3))
      refine ⟨a, e1, ⟨xs, q3 B1 H1 (Lt.refl r.gr.bh)⟩, hok l E2 _ B1 H1 [] r.gr ⟨fun i B' H' lt hi => ?_, fun i v B' H' H'' lt hi y => ?_, fun i B' H' lt hi => ?_⟩ (fun a ha => nomatch ha)⟩
      · have hi' : i < xs.length := by rw [← q2.length]; exact hi
        exact ⟨xs, xs[i], q3 B' H' lt, by simp [hi']⟩
      · obtain ⟨rfl, y⟩ := y
        obtain ⟨d', z1, z2⟩ := own_at q2 (y xs (q3 B' _ lt))
        exact ⟨d', B', z1, Gr.refl lt.bh, Own.noF (Own.mono (H' := H1) lt.bb z2 (fun _ h => nomatch h))⟩
      · exact ⟨xs, q3 B' H' lt, by rw [← q2.length]; exact hi⟩
    · rw [if_neg c] at E2; exact absurd E2 hst
  · refine absurd ?_ hst
    rw [E]
    unfold itT
    split
    · rename_i l; exact absurd ⟨l, rfl⟩ z
    · rfl
/-- range(n), range(a, b) -/
def rangeD (lo : Int) (n : Nat) : List D := (List.range n).map fun i => .int (lo + (i : Nat))
def itR1 : List D → R (List D)
  | [.int n] => if -(2 ^ 62) ≤ n ∧ n < 2 ^ 62 then .ok (rangeD 0 n.toNat) else .stk
  | _ => .stk
def itR2 : List D → R (List D)
  | [.int a, .int b] => if -(2 ^ 62) ≤ a ∧ a < 2 ^ 62 ∧ -(2 ^ 62) ≤ b ∧ b < 2 ^ 62 then .ok (rangeD a (b - a).toNat) else .stk
  | _ => .stk
def cItA (g : List D → R (List D)) (f : Env → R (List D)) : Env → R (List D) := fun env => f env >>= g
theorem rangeD_at {lo : Int} {n i : Nat} (h : i < n) : (rangeD lo n)[i]? = some (.int (lo + (i : Nat))) := by
  unfold rangeD
  rw [List.getElem?_map, List.getElem?_range h]; rfl
theorem rangeD_len {lo : Int} {n : Nat} : (rangeD lo n).length = n := by unfold rangeD; simp
theorem yld_range {B H : Hp} {lo : Int} {n : Nat} : Yld G [] B H (Itr lo n) (rangeD lo n) where
  go := fun i B' H' _ hi => by rw [rangeD_len] at hi; exact hi
  yl := fun i v B' H' H'' lt hi y => by
    rw [rangeD_len] at hi
    obtain ⟨rfl, rfl⟩ := y
    exact ⟨_, B', rangeD_at hi, Gr.refl lt.bh, rfl, rfl⟩
  st := fun i B' H' _ hi => by rw [rangeD_len] at hi; exact hi
theorem sim_itR1 (h : SimV G W tr fr) : SimI G W m (iRng1 tr) (cItA itR1 fr) := fun B H env σ φ R S hok hex hst => by
  refine h B H env σ φ _ S (fun ds hd vs B1 H1 F r => ?_) (fun e he cls dx B' H' rx => hex e (by show (fr env >>= _) = _; rw [he]; rfl) cls dx B' H' rx) (bind_stk hst)
  have E : cItA itR1 fr env = itR1 ds := by show (fr env >>= _) = _; rw [hd]; rfl
  rw [E] at hst hok
  unfold itR1 at hst hok
  split at hst
  · rename_i n
    obtain ⟨v, rfl, rfl, _⟩ := owns1 r.ow
    split at hst
    · rename_i c
      exact ⟨n, rfl, c.1, c.2, hok _ (by simp only [if_pos c]) _ B1 H1 [] r.gr yld_range (fun a ha => nomatch ha)⟩
    · exact absurd rfl hst
  · exact absurd rfl hst
theorem sim_itR2 (h : SimV G W tr fr) : SimI G W m (iRng2 tr) (cItA itR2 fr) := fun B H env σ φ R S hok hex hst => by
  refine h B H env σ φ _ S (fun ds hd vs B1 H1 F r => ?_) (fun e he cls dx B' H' rx => hex e (by show (fr env >>= _) = _; rw [he]; rfl) cls dx B' H' rx) (bind_stk hst)
  have E : cItA itR2 fr env = itR2 ds := by show (fr env >>= _) = _; rw [hd]; rfl
  rw [E] at hst hok
  unfold itR2 at hst hok
  split at hst
  · rename_i a b
    obtain ⟨v, w, F1, F2, rfl, ⟨rfl, _⟩, rfl, _⟩ := owns2 r.ow
    split at hst
    · rename_i c
      exact ⟨a, b, rfl, c, hok _ (by simp only [if_pos c]) _ B1 H1 [] r.gr yld_range (fun a ha => nomatch ha)⟩
    · exact absurd rfl hst
  · exact absurd rfl hst
/-- enumerate(list) -/
def enumD (l : List D) : List D := l.mapIdx fun i d => .tup [.int (i : Nat), d]
def itE : List D → R (List D)
  | [d] => itL d >>= fun l => .ok (enumD l)
  | _ => .stk
theorem sim_itE (h : Sim G W m ta fa) : SimI G W m (iEnum G.K (tCons ta tNil)) (cItA itE (eCons fa eNil)) := fun B H env σ φ R S hok hex hst => by
  have E0 : cItA itE (eCons fa eNil) env = (fa env >>= fun d => itL d >>= fun l => .ok (enumD l)) := by
    show ((fa env >>= fun d => (eNil env >>= fun ds => DP.R.ok (d :: ds))) >>= itE) = _
    cases fa env <;> rfl
  rw [E0] at hst
  refine h B H env σ φ _ S (fun d hd v B1 H1 F r => ?_) (fun e he cls dx B' H' rx => hex e (by rw [E0, he]; rfl) cls dx B' H' rx) (bind_stk hst)
  have E : cItA itE (eCons fa eNil) env = (itL d >>= fun l => .ok (enumD l)) := by rw [E0, hd]; rfl
  rw [← E0, E] at hst
  cases q : itL d with
  | stk => exact absurd (by rw [q]; rfl) hst
  | exc e => exact absurd q itL_noexc
  | ok l =>
    obtain ⟨a, xs, rfl, q2, q3⟩ := list_cell r.gr.bh r.ow q
    have len : (enumD l).length = xs.length := by unfold enumD; rw [List.length_mapIdx]; exact q2.length
    refine ⟨a, xs, rfl, q3 B1 H1 (Lt.refl r.gr.bh), hok (enumD l) (by rw [E, q]; rfl) _ B1 H1 F r.gr ⟨fun i B' H' lt hi => ?_, fun i v B' H' H'' lt hi y => ?_, fun i B' H' lt hi => ?_⟩ (fun a ha => ⟨r.ow.dom a ha, r.fr a ha⟩)⟩
    · have hi' : i < xs.length := by rw [← len]; exact hi
      exact ⟨xs, xs[i], q3 B' H' lt, by simp [hi']⟩
    · obtain ⟨T, x, rfl, nT, rfl, y⟩ := y
      obtain ⟨d', z1, z2⟩ := own_at q2 (y xs (q3 B' _ lt))
      have g := Gr.new (o := .tup [.int (i : Nat), x]) lt.bh nT
      refine ⟨.tup [.int (i : Nat), d'], _, by unfold enumD; rw [List.getElem?_mapIdx, z1]; rfl, g, T, [.int (i : Nat), x], [], rfl, ?_, upd_same, rfl, fun _ _ => rfl⟩
      exact Owns.cons (F := []) (F' := []) ⟨rfl, rfl⟩ (Owns.one (Own.noF (Own.mono (H' := H1) (lt.bb.trans g.bb) z2 (fun _ h => nomatch h))))
    · exact ⟨xs, q3 B' H' lt, by rw [← len]; exact hi⟩
/-- a text's signs -/
def strD (s : Str) : List D := s.cps.toList.map fun c => .str ⟨#[c]⟩
def itS : D → R (List D)
  | .str s => .ok (strD s)
  | _ => .stk
theorem sim_itS (h : Sim G W m1 ta fa) : SimI G W m (iStr ta) (cIt itS fa) := fun B H env σ φ R S hok hex hst => by
  refine h B H env σ φ _ S (fun d hd v B1 H1 F r => ?_) (fun e he cls dx B' H' rx => hex e (by show (fa env >>= _) = _; rw [he]; rfl) cls dx B' H' rx) (bind_stk hst)
  have E : cIt itS fa env = itS d := by show (fa env >>= _) = _; rw [hd]; rfl
  cases d with
  | str s =>
    have E2 : cIt itS fa env = .ok (strD s) := E
    have len : (strD s).length = s.cps.size := by unfold strD; simp
    refine ⟨s, r.ow.1, hok _ E2 _ B1 H1 [] r.gr ⟨fun i B' H' lt hi => ?_, fun i v B' H' H'' lt hi y => ?_, fun i B' H' lt hi => ?_⟩ (fun a ha => nomatch ha)⟩
    · rw [len] at hi; exact hi
    · obtain ⟨rfl, c, hc, rfl⟩ := y
      exact ⟨.str ⟨#[c]⟩, B', by unfold strD; rw [List.getElem?_map]; simp [hc], Gr.refl lt.bh, rfl, rfl⟩
    · rw [len] at hi; exact hi
  | _ => exact absurd E hst
end

/-! ### comprehensions -/
def wipeD (env : Env) : List Nat → Env
  | [] => env
  | v :: vs => (wipeD env vs).set v .unk
/-- no exception is let out -/
def nx {α : Type} : R α → R α
  | .ok a => .ok a
  | _ => .stk
theorem nx_ok {α : Type} {r : R α} {a : α} (h : nx r = .ok a) : r = .ok a := by cases r <;> first | exact h | cases h
@[simp] theorem nx_ok' {α : Type} (a : α) : nx (.ok a) = .ok a := rfl
theorem Sta.wipe1 {G : Gx} {B H : Hp} {env : Env} {σ : L2.St} {φ : Nat → List Addr} (S : Sta G B H env σ φ) (i : Nat) : Sta G B H (env.set i .unk) (σ.set i none) φ where
  ex := S.ex
  len := by rw [List.length_set, List.length_set]; exact S.len
  slot := fun j e h => by
    by_cases q : i = j
    · subst q
      by_cases hl : i < env.length
      · rw [List.getElem?_set_self hl] at h; cases h; exact .inl rfl
      · rw [List.getElem?_eq_none (by rw [List.length_set]; omega)] at h; cases h
    · rw [List.getElem?_set_ne q] at h ⊢
      exact S.slot j e h
  nd := S.nd
  dj := S.dj
  out := S.out
  dom := S.dom
theorem Sta.wipe {G : Gx} {B H : Hp} {env : Env} {σ : L2.St} {φ : Nat → List Addr} (S : Sta G B H env σ φ) : ∀ vs : List Nat, Sta G B H (wipeD env vs) (L2.wipe σ vs) φ
  | [] => S
  | v :: vs => (S.wipe vs).wipe1 v
theorem wipe_get (σ : L2.St) (j : Nat) : ∀ vs : List Nat, (L2.wipe σ vs)[j]? = if j ∈ vs then (if j < σ.length then some none else none) else σ[j]?
  | [] => by simp [L2.wipe]
  | v :: vs => by
    unfold L2.wipe
    by_cases q : v = j
    · subst q
      rw [if_pos List.mem_cons_self]
      by_cases hl : v < σ.length
      · rw [if_pos hl, List.getElem?_set_self (by rw [wipe_length]; exact hl)]
      · rw [if_neg hl, List.getElem?_eq_none (by rw [List.length_set, wipe_length]; omega)]
    · rw [List.getElem?_set_ne q, wipe_get σ j vs]
      have : j ∈ v :: vs ↔ j ∈ vs := by simp [Ne.symm q]
      simp only [this]
theorem wipe_same {σ σ' : L2.St} {vs : List Nat} (hl : σ'.length = σ.length) (h : ∀ j, j ∉ vs → σ'[j]? = (L2.wipe σ vs)[j]?) : L2.wipe σ' vs = L2.wipe σ vs := by
  refine List.ext_getElem? fun j => ?_
  rw [wipe_get, wipe_get]
  by_cases q : j ∈ vs
  · rw [if_pos q, if_pos q, hl]
  · rw [if_neg q, if_neg q, h j q, wipe_get, if_neg q]
def lcGo (g : D → Env → R Env) (c : Env → R Bool) (el : Env → R D) (env : Env) : List D → R (List D)
  | [] => .ok []
  | d :: ds => nx (g d env) >>= fun env1 => nx (c env1) >>= fun b => if b = true then nx (el env1) >>= fun x => lcGo g c el env ds >>= fun r => .ok (x :: r) else lcGo g c el env ds
def eLc (src : Env → R (List D)) (g : D → Env → R Env) (c : Env → R Bool) (el : Env → R D) (vs : List Nat) : Env → R D := fun env => src env >>= fun ds => if ds.length ≤ sizeLine then lcGo g c el (wipeD env vs) ds >>= fun out => .ok (.own out) else .stk
def eYes : Env → R Bool := fun _ => .ok true
/-- nothing is let out -/
def W0 : WX := fun _ _ _ _ => False
theorem lcGo_noexc {g : D → Env → R Env} {c : Env → R Bool} {el : Env → R D} {env : Env} : ∀ {ds : List D} {e : Exc}, lcGo g c el env ds ≠ .exc e
  | [], _ => fun h => nomatch h
  | d :: ds, e => by
    intro h
    unfold lcGo at h
    cases h1 : nx (g d env) with
    | stk => rw [h1] at h; cases h
    | exc e => cases q : g d env <;> rw [q] at h1 <;> cases h1
    | ok env1 =>
      rw [h1, R.ok_bind] at h
      cases h2 : nx (c env1) with
      | stk => rw [h2] at h; cases h
      | exc e => cases q : c env1 <;> rw [q] at h2 <;> cases h2
      | ok b =>
        rw [h2, R.ok_bind] at h
        cases b with
        | false => rw [if_neg Bool.false_ne_true] at h; exact lcGo_noexc h
        | true =>
          rw [if_pos rfl] at h
          cases h3 : nx (el env1) with
          | stk => rw [h3] at h; cases h
          | exc e => cases q : el env1 <;> rw [q] at h3 <;> cases h3
          | ok x =>
            rw [h3, R.ok_bind] at h
            cases h4 : lcGo g c el env ds with
            | stk => rw [h4] at h; cases h
            | exc e => exact lcGo_noexc h4
            | ok r => rw [h4] at h; cases h
section
variable {G : Gx} {W : WX} {m m1 m2 : Option Nat} {te : TE} {fe : Env → R D} {tt : TT} {ft : Env → R Bool} {wi : TI} {fi : Env → R (List D)} {g : TG} {b : D → Env → R Env} {sl vs : List Nat}
theorem simT_yes : SimT G W tYes eYes := fun B H env σ φ Q S hok hex hst => hok true rfl B H (Gr.refl S.ex)
theorem sim_lc (hi : SimI G W m1 wi fi) (hg : SimG G sl g b) (hs : ∀ j ∈ sl, j ∈ vs) (ht : SimT G W0 tt ft) (he : Sim G W0 none te fe) : Sim G W none (tLc wi g tt te vs) (eLc fi b ft fe vs) := fun B H env σ φ Q S hok hex hst => by
  refine hi B H env σ φ _ S (fun ds hd J B1 H1 Fs g1 Y fs => ?_) (fun e he cls dx B' H' rx => hex e (by show (fi env >>= _) = _; rw [he]; rfl) cls dx B' H' rx) (bind_stk hst)
  have E : eLc fi b ft fe vs env = if ds.length ≤ sizeLine then lcGo b ft fe (wipeD env vs) ds >>= fun out => .ok (.own out) else .stk := by show (fi env >>= _) = _; rw [hd]; rfl
  rw [E] at hst
  by_cases cl' : ¬ ds.length ≤ sizeLine
  · rw [if_neg cl'] at hst; exact absurd rfl hst
  have cl : ds.length ≤ sizeLine := Decidable.not_not.mp cl'
  rw [if_pos cl] at hst E
  cases q0 : lcGo b ft fe (wipeD env vs) ds with
  | stk => rw [q0] at hst; exact absurd rfl hst
  | exc e => exact absurd q0 lcGo_noexc
  | ok out =>
  have S1 := (S.grow g1).wipe vs
  intro Dl hD
  refine ⟨fun i mm H' => mm = ds.length - i ∧ i ≤ ds.length ∧ ∃ B' accD accV F r, Gr B1 H1 B' H' ∧ B' Dl = none ∧ H' Dl = some (.lst accV) ∧ Owns G B' H' accD accV F ∧ (Dl :: F).Nodup ∧ (∀ a ∈ F, B' a = none) ∧ (∀ a ∈ F, H1 a = none) ∧ lcGo b ft fe (wipeD env vs) (ds.drop i) = .ok r ∧ out = accD ++ r ∧ accD.length ≤ i,
    ⟨ds.length, by simp, Nat.zero_le _, B1, [], [], [], out, ?_, none_back g1.bh hD, upd_same, Owns.nil, by simp, fun _ h => (nomatch h), fun _ h => (nomatch h), by rw [List.drop_zero]; exact q0, rfl, Nat.le_refl _⟩, ?_⟩
  · exact Gr.newO g1.bh hD
  rintro i mm H2 ⟨rfl, hi2, B2, accD, accV, F, r, g2, bD, hDl, ow, nd, out', fr, qr, eo, hacc⟩
  have lt2 : Lt Fs B1 H1 B2 H2 := g2.lt
  by_cases hlt : i < ds.length
  · refine .inr ⟨Y.go i B2 H2 lt2 hlt, fun H' => ∃ B' accD accV F r, Gr B1 H1 B' H' ∧ B' Dl = none ∧ H' Dl = some (.lst accV) ∧ Owns G B' H' accD accV F ∧ (Dl :: F).Nodup ∧ (∀ a ∈ F, B' a = none) ∧ (∀ a ∈ F, H1 a = none) ∧ lcGo b ft fe (wipeD env vs) (ds.drop (i + 1)) = .ok r ∧ out = accD ++ r ∧ accD.length ≤ i + 1,
      fun H' w => ⟨ds.length - (i + 1), by omega, rfl, hlt, w⟩, fun x H3 y => ?_⟩
    obtain ⟨d, B3, hdi, g3, od⟩ := Y.yl i x B2 H2 H3 lt2 hlt y
    have ed : ds.drop i = d :: ds.drop (i + 1) := by
      obtain ⟨h1, h2⟩ := List.getElem?_eq_some_iff.mp hdi
      rw [← h2]; exact List.drop_eq_getElem_cons h1
    rw [ed] at qr
    unfold lcGo at qr
    have g13 := g2.trans g3
    have S3 := S1.grow g13
    have dD3 : H3 Dl = some (.lst accV) := g3.hh _ _ hDl
    have bD3 : ∀ {B' H' : Hp}, Gr B2 H2 B' H' → B' Dl = none := fun {B' H'} gg => by
      cases z : B' Dl with
      | none => rfl
      | some o => have := gg.nw Dl o z bD; rw [hDl] at this; cases this
    cases q1 : nx (b d (wipeD env vs)) with
    | stk => rw [q1] at qr; cases qr
    | exc e => cases z : b d (wipeD env vs) <;> rw [z] at q1 <;> cases q1
    | ok env1 =>
    have q1' := nx_ok q1
    rw [q1, R.ok_bind] at qr
    refine hg B3 H3 (wipeD env vs) (L2.wipe σ vs) φ d x _ S3 od (fun env' he' σ' φ' S' p' k' l' => ?_) (fun e z => by rw [z] at q1'; cases q1') (fun z => by rw [z] at q1'; cases q1')
    rw [q1'] at he'; cases he'
    refine ⟨wipe_same (by rw [l', wipe_length]) (fun j hj => (k' j (fun z => hj (hs j z))).1), ?_⟩
    cases q2 : nx (ft env1) with
    | stk => rw [q2] at qr; cases qr
    | exc e => cases z : ft env1 <;> rw [z] at q2 <;> cases q2
    | ok bb =>
    have q2' := nx_ok q2
    rw [q2, R.ok_bind] at qr
    refine ht B3 H3 env1 σ' φ' _ S' (fun b' hb' B4 H4 g4 => ?_) (fun e z => by rw [z] at q2'; cases q2') (fun z => by rw [z] at q2'; cases q2')
    rw [q2'] at hb'; cases hb'
    cases bb with
    | false =>
      rw [if_neg Bool.false_ne_true] at qr ⊢
      have g24 := g3.trans g4
      exact ⟨B4, accD, accV, F, r, g2.trans g24, bD3 g24, g24.hh _ _ hDl, Owns.mono g24.bb ow (fun a _ o => g24.hh a o), nd, out_grow g24 out' ow.dom, fr, qr, eo, by omega⟩
    | true =>
      rw [if_pos rfl] at qr ⊢
      cases q3 : nx (fe env1) with
      | stk => rw [q3] at qr; cases qr
      | exc e => cases z : fe env1 <;> rw [z] at q3 <;> cases q3
      | ok dx =>
      have q3' := nx_ok q3
      rw [q3, R.ok_bind] at qr
      cases q4 : lcGo b ft fe (wipeD env vs) (ds.drop (i + 1)) with
      | stk => rw [q4] at qr; cases qr
      | exc e => exact absurd q4 lcGo_noexc
      | ok r2 =>
      rw [q4] at qr
      have er : r = dx :: r2 := by cases qr; rfl
      refine he B4 H4 env1 σ' φ' _ (S'.grow g4) (fun dy hy v5 B5 H5 F5 r5 => ?_) (fun e z => by rw [z] at q3'; cases q3') (fun z => by rw [z] at q3'; cases q3')
      rw [q3'] at hy; cases hy
      have g25 := (g3.trans g4).trans r5.gr
      have dD5 := g25.hh _ _ hDl
      refine ⟨accV, dD5, ?_, ?_⟩
      · have e1 := ow.length
        omega
      have domF : ∀ a ∈ F, ∃ o, H2 a = some o := ow.dom
      have nF : Dl ∉ F := (List.nodup_cons.mp nd).1
      have n5 : Dl ∉ F5 := fun z => by
        rcases r5.fr _ z with q | ⟨_, q, _⟩
        · have := (g3.trans g4).hh _ _ hDl; rw [q] at this; cases this
        · cases q
      have b5 := bD3 g25
      refine ⟨B5, accD ++ [dx], accV ++ [v5], F ++ F5, r2, ⟨?_, (g2.trans g25).bb, ?_, ?_⟩, b5, upd_same, ?_, ?_, ?_, ?_, rfl, by rw [eo, er, List.append_assoc]; rfl, by rw [List.length_append, List.length_singleton]; omega⟩
      · intro a o h
        have : a ≠ Dl := fun z => by rw [z, hD] at h; cases h
        rw [upd_ne this]; exact (g2.trans g25).hh a o h
      · intro a o h
        have : a ≠ Dl := fun z => by rw [z, b5] at h; cases h
        rw [upd_ne this]; exact r5.gr.bh a o h
      · exact (g2.trans g25).nw
      · refine Owns.append (Owns.mono g25.bb ow (fun a ha o h => ?_)) (Owns.one (Own.mono (Ex.refl _) r5.ow (fun a ha o h => ?_)))
        · rw [upd_ne (fun z => nF (by rw [← z]; exact ha))]; exact g25.hh a o h
        · rw [upd_ne (fun z => n5 (by rw [← z]; exact ha))]; exact h
      · refine List.nodup_cons.mpr ⟨fun z => (List.mem_append.mp z).elim nF n5, List.nodup_append.mpr ⟨(List.nodup_cons.mp nd).2, r5.nd, fun a ha c hc e => ?_⟩⟩
        subst e
        rcases r5.fr _ hc with q | ⟨_, q, _⟩
        · obtain ⟨o, h⟩ := domF a ha
          have := (g3.trans g4).hh _ _ h; rw [q] at this; cases this
        · cases q
      · intro a ha
        rcases List.mem_append.mp ha with ha | ha
        · exact out_grow g25 out' domF a ha
        · exact r5.out a ha
      · intro a ha
        rcases List.mem_append.mp ha with ha | ha
        · exact fr a ha
        · rcases r5.fr _ ha with q | ⟨_, q, _⟩
          · exact none_back (g2.trans (g3.trans g4)).hh q
          · cases q
  · have ei : i = ds.length := by omega
    subst ei
    rw [List.drop_length] at qr
    have e2 : r = [] := by unfold lcGo at qr; cases qr; rfl
    have e3 : out = accD := by rw [eo, e2, List.append_nil]
    refine .inl ⟨Y.st _ B2 H2 lt2 (Nat.le_refl _), hok (.own out) (by rw [E, q0]; rfl) (.ref Dl) B2 H2 (Dl :: F) ⟨g1.trans g2, ⟨Dl, accV, F, rfl, by rw [e3]; exact ow, ⟨hDl, _, hDl⟩, rfl, fun z => nomatch z⟩, nd, fun a ha => ?_, fun a ha => .inl ?_⟩⟩
    · rcases List.mem_cons.mp ha with rfl | ha
      · exact bD
      · exact out' a ha
    · rcases List.mem_cons.mp ha with rfl | ha
      · exact none_back g1.hh hD
      · exact none_back g1.hh (fr a ha)
end
end DP


set_option Elab.async false
set_option linter.all false
set_option maxRecDepth 100000
set_option maxHeartbeats 4000000
namespace DP
open PySem L2 Evl

/-! ### what changes slots -/
inductive RE (α : Type) where
  | ok (a : α) (env : Env)
  | exc (e : Exc) (env : Env)
  | stk
abbrev Ef (α : Type) := Env → RE α
def RE.bind {α β : Type} (x : RE α) (f : α → Ef β) : RE β := match x with
  | .ok a env => f a env
  | .exc e env => .exc e env
  | .stk => .stk
@[simp] theorem RE.bind_ok {α β : Type} (a : α) (env : Env) (f : α → Ef β) : (RE.ok a env).bind f = f a env := rfl
@[simp] theorem RE.bind_exc {α β : Type} (e : Exc) (env : Env) (f : α → Ef β) : (RE.exc e env : RE α).bind f = .exc e env := rfl
@[simp] theorem RE.bind_stk {α β : Type} (f : α → Ef β) : (RE.stk : RE α).bind f = .stk := rfl
def R.ef {α : Type} (x : R α) (env : Env) : RE α := match x with
  | .ok a => .ok a env
  | .exc e => .exc e env
  | .stk => .stk
@[simp] theorem R.ef_ok {α : Type} (a : α) (env : Env) : (R.ok a).ef env = .ok a env := rfl
@[simp] theorem R.ef_exc {α : Type} (e : Exc) (env : Env) : (R.exc e : R α).ef env = .exc e env := rfl
@[simp] theorem R.ef_stk {α : Type} (env : Env) : (R.stk : R α).ef env = .stk := rfl
theorem bindE_stk {α β : Type} {x : RE α} {f : α → Ef β} (h : x.bind f ≠ .stk) : x ≠ .stk := fun e => h (by rw [e]; rfl)

structure ExcIs (G : Gx) (B H : Hp) (e : Exc) (cls : Value) (dx : Option Addr) : Prop where
  len : e.ns.length = e.fs.length
  cls : ∃ C, G.mg e.c = some (.ref C) ∧ cls = .ref C
  dict : (e.ns = [] ∧ dx = none) ∨ (e.ns ≠ [] ∧ ∃ d vs, dx = some d ∧ B d = some (.xd (e.ns.zip vs)) ∧ Owns G B H e.fs vs [])
theorem Rx.is {G : Gx} {B H B' H' : Hp} {e : Exc} {cls : Value} {dx : Option Addr} (r : Rx G B H B' H' e cls dx) : ExcIs G B' H' e cls dx := ⟨r.len, r.cls, r.dict⟩

/-- from one state to another: slots in μ may change -/
structure Tr (μ : List Nat) (φ : Nat → List Addr) (B H B' H' : Hp) (φ' : Nat → List Addr) : Prop where
  bb : Ex B B'
  keep : ∀ a o, H a = some o → (∀ i ∈ μ, a ∉ φ i) → H' a = some o
  nw : ∀ a o, B' a = some o → B a = none → H a = none ∨ ∃ i ∈ μ, a ∈ φ i
  same : ∀ i, i ∉ μ → ∀ a ∈ φ' i, a ∈ φ i
  fr : ∀ i ∈ μ, ∀ a ∈ φ' i, H a = none ∨ ∃ j ∈ μ, a ∈ φ j
theorem Tr.of_gr {μ : List Nat} {φ : Nat → List Addr} {B H B' H' : Hp} (g : Gr B H B' H') : Tr μ φ B H B' H' φ :=
  ⟨g.bb, fun a o h _ => g.hh a o h, fun a o h1 h2 => .inl (g.nw a o h1 h2), fun _ _ _ h => h, fun i hi a ha => .inr ⟨i, hi, ha⟩⟩
theorem Tr.refl {μ : List Nat} {φ : Nat → List Addr} {B H : Hp} (e : Ex B H) : Tr μ φ B H B H φ := .of_gr (Gr.refl e)
theorem Tr.trans {μ : List Nat} {φ φ1 φ2 : Nat → List Addr} {B H B1 H1 B2 H2 : Hp} (a : Tr μ φ B H B1 H1 φ1) (b : Tr μ φ1 B1 H1 B2 H2 φ2) : Tr μ φ B H B2 H2 φ2 := by
  have old : ∀ c, H1 c = none → H c = none ∨ ∃ i ∈ μ, c ∈ φ i := fun c h => by
    cases q : H c with
    | none => exact .inl rfl
    | some o =>
      refine .inr (Classical.byContradiction fun z => ?_)
      have := a.keep c o q (fun i hi hc => z ⟨i, hi, hc⟩)
      rw [h] at this; cases this
  have oldφ : ∀ c, (∃ i ∈ μ, c ∈ φ1 i) → H c = none ∨ ∃ i ∈ μ, c ∈ φ i := fun c ⟨i, hi, hc⟩ => a.fr i hi c hc
  refine ⟨a.bb.trans b.bb, fun c o h n => ?_, fun c o h1 h2 => ?_, fun i hi c hc => a.same i hi c (b.same i hi c hc), fun i hi c hc => ?_⟩
  · refine b.keep c o (a.keep c o h n) fun i hi hc => ?_
    rcases a.fr i hi c hc with q | ⟨j, hj, q⟩
    · rw [h] at q; cases q
    · exact n j hj q
  · cases q : B1 c with
    | some u => exact a.nw c u q h2
    | none =>
      rcases b.nw c o h1 q with z | z
      · exact old c z
      · exact oldφ c z
  · rcases b.fr i hi c hc with z | z
    · exact old c z
    · exact oldφ c z
theorem Tr.mono {μ μ' : List Nat} {φ φ' : Nat → List Addr} {B H B' H' : Hp} (a : Tr μ φ B H B' H' φ') (h : ∀ i ∈ μ, i ∈ μ') : Tr μ' φ B H B' H' φ' where
  bb := a.bb
  keep := fun c o q n => a.keep c o q fun i hi => n i (h i hi)
  nw := fun c o h1 h2 => (a.nw c o h1 h2).imp id fun ⟨i, hi, q⟩ => ⟨i, h i hi, q⟩
  same := fun i hi => a.same i fun z => hi (h i z)
  fr := fun i hi c hc => by
    by_cases q : i ∈ μ
    · exact (a.fr i q c hc).imp id fun ⟨j, hj, z⟩ => ⟨j, h j hj, z⟩
    · exact .inr ⟨i, hi, a.same i q c hc⟩

/-- a value that has come, slots of μ changed -/
structure RsF (G : Gx) (μ : List Nat) (φ : Nat → List Addr) (B H : Hp) (env : Env) (σ : L2.St) (d : D) (env' : Env) (v : V) (B' H' : Hp) (φ' : Nat → List Addr) (F : List Addr) : Prop where
  tr : Tr μ φ B H B' H' φ'
  st : Sta G B' H' env' σ φ'
  env : ∀ i, i ∉ μ → env'[i]? = env[i]?
  ow : Own G B' H' d v F
  nd : F.Nodup
  out : ∀ a ∈ F, B' a = none
  dj : ∀ a ∈ F, ∀ i, a ∉ φ' i
  fr : ∀ a ∈ F, H a = none ∨ ∃ i ∈ μ, a ∈ φ i
/-- arguments, slots changed -/
structure RsFA (G : Gx) (μ : List Nat) (φ : Nat → List Addr) (B H : Hp) (env : Env) (σ : L2.St) (ds : List D) (env' : Env) (vs : List V) (B' H' : Hp) (φ' : Nat → List Addr) (F : List Addr) : Prop where
  tr : Tr μ φ B H B' H' φ'
  st : Sta G B' H' env' σ φ'
  env : ∀ i, i ∉ μ → env'[i]? = env[i]?
  ow : Owns G B' H' ds vs F
  nd : F.Nodup
  out : ∀ a ∈ F, B' a = none
  dj : ∀ a ∈ F, ∀ i, a ∉ φ' i
  fr : ∀ a ∈ F, H a = none ∨ ∃ i ∈ μ, a ∈ φ i
structure RxF (G : Gx) (μ : List Nat) (φ : Nat → List Addr) (B H : Hp) (env : Env) (σ : L2.St) (e : Exc) (env' : Env) (cls : Value) (dx : Option Addr) (B' H' : Hp) (φ' : Nat → List Addr) : Prop where
  tr : Tr μ φ B H B' H' φ'
  st : Sta G B' H' env' σ φ'
  env : ∀ i, i ∉ μ → env'[i]? = env[i]?
  is : ExcIs G B' H' e cls dx
/-- a test's end -/
structure RsFT (G : Gx) (μ : List Nat) (φ : Nat → List Addr) (B H : Hp) (env : Env) (σ : L2.St) (env' : Env) (B' H' : Hp) (φ' : Nat → List Addr) : Prop where
  tr : Tr μ φ B H B' H' φ'
  st : Sta G B' H' env' σ φ'
  env : ∀ i, i ∉ μ → env'[i]? = env[i]?
def SimF (G : Gx) (W : WX) (μ : List Nat) (t : TE) (f : Ef D) : Prop := ∀ B H env σ φ Q, Sta G B H env σ φ →
  (∀ d env', f env = .ok d env' → ∀ v B' H' φ' F, RsF G μ φ B H env σ d env' v B' H' φ' F → Q v H') →
  (∀ e env', f env = .exc e env' → ∀ cls dx B' H' φ', RxF G μ φ B H env σ e env' cls dx B' H' φ' → W cls dx σ H') →
  f env ≠ .stk → t σ H Q
def SimFT (G : Gx) (W : WX) (μ : List Nat) (t : TT) (f : Ef Bool) : Prop := ∀ B H env σ φ Q, Sta G B H env σ φ →
  (∀ b env', f env = .ok b env' → ∀ B' H' φ', RsFT G μ φ B H env σ env' B' H' φ' → Q b H') →
  (∀ e env', f env = .exc e env' → ∀ cls dx B' H' φ', RxF G μ φ B H env σ e env' cls dx B' H' φ' → W cls dx σ H') →
  f env ≠ .stk → t σ H Q
def SimFA (G : Gx) (W : WX) (μ : List Nat) (t : TA) (f : Ef (List D)) : Prop := ∀ B H env σ φ Q, Sta G B H env σ φ →
  (∀ ds env', f env = .ok ds env' → ∀ vs B' H' φ' F, RsFA G μ φ B H env σ ds env' vs B' H' φ' F → Q vs H') →
  (∀ e env', f env = .exc e env' → ∀ cls dx B' H' φ', RxF G μ φ B H env σ e env' cls dx B' H' φ' → W cls dx σ H') →
  f env ≠ .stk → t σ H Q
def lf {α : Type} (f : Env → R α) : Ef α := fun env => (f env).ef env
section
variable {G : Gx} {W : WX} {m : Option Nat} {μ : List Nat} {t ta tb : TE} {f : Env → R D} {tt tu : TT} {tr : TA} {fr : Env → R (List D)}
theorem Rx.rxF {B H B' H' : Hp} {env : Env} {σ : L2.St} {φ : Nat → List Addr} {e : Exc} {cls : Value} {dx : Option Addr} (S : Sta G B H env σ φ) (r : Rx G B H B' H' e cls dx) : RxF G μ φ B H env σ e env cls dx B' H' φ :=
  ⟨.of_gr r.gr, S.grow r.gr, fun _ _ => rfl, r.is⟩
theorem Rs.rsF {B H B' H' : Hp} {env : Env} {σ : L2.St} {φ : Nat → List Addr} {d : D} {v : V} {F : List Addr} (S : Sta G B H env σ φ) (r : Rs G none φ B H d v B' H' F) : RsF G μ φ B H env σ d env v B' H' φ F :=
  ⟨.of_gr r.gr, S.grow r.gr, fun _ _ => rfl, r.ow, r.nd, r.out, fun a ha i hi => (by
    rcases r.fr a ha with q | ⟨_, q, _⟩
    · obtain ⟨o, h⟩ := S.dom i a hi
      rw [q] at h; cases h
    · cases q), fun a ha => (r.fr a ha).imp id fun ⟨_, q, _⟩ => nomatch q⟩
theorem Sim.lf (h : Sim G W none t f) : SimF G W μ t (lf f) := fun B H env σ φ Q S hok hex hst =>
  h B H env σ φ Q S (fun d hd v B' H' F r => hok d env (by show (f env).ef env = _; rw [hd]; rfl) v B' H' φ F (r.rsF S)) (fun e he cls dx B' H' r => hex e env (by show (f env).ef env = _; rw [he]; rfl) cls dx B' H' φ (r.rxF S)) (fun z => hst (by show (f env).ef env = _; rw [z]; rfl))
theorem SimT.lf {f : Env → R Bool} (h : SimT G W tt f) : SimFT G W μ tt (DP.lf f) := fun B H env σ φ Q S hok hex hst =>
  h B H env σ φ Q S (fun d hd B' H' g => hok d env (by show (f env).ef env = _; rw [hd]; rfl) B' H' φ ⟨.of_gr g, S.grow g, fun _ _ => rfl⟩) (fun e he cls dx B' H' r => hex e env (by show (f env).ef env = _; rw [he]; rfl) cls dx B' H' φ (r.rxF S)) (fun z => hst (by show (f env).ef env = _; rw [z]; rfl))
theorem SimA.lf (h : SimA G W tr fr) : SimFA G W μ tr (DP.lf fr) := fun B H env σ φ Q S hok hex hst =>
  h B H env σ φ Q S (fun ds hd vs B' H' F r => hok ds env (by show (fr env).ef env = _; rw [hd]; rfl) vs B' H' φ F ⟨.of_gr r.gr, S.grow r.gr, fun _ _ => rfl, r.ow, r.nd, r.out, fun a ha i hi => (by
    obtain ⟨o, h⟩ := S.dom i a hi
    rw [r.fr a ha] at h; cases h), fun a ha => .inl (r.fr a ha)⟩) (fun e he cls dx B' H' r => hex e env (by show (fr env).ef env = _; rw [he]; rfl) cls dx B' H' φ (r.rxF S)) (fun z => hst (by show (fr env).ef env = _; rw [z]; rfl))
theorem SimF.mono {μ' : List Nat} {f : Ef D} (h : SimF G W μ t f) (hm : ∀ i ∈ μ, i ∈ μ') : SimF G W μ' t f := fun B H env σ φ Q S hok hex hst =>
  h B H env σ φ Q S (fun d env' hd v B' H' φ' F r => hok d env' hd v B' H' φ' F ⟨r.tr.mono hm, r.st, fun i hi => r.env i fun z => hi (hm i z), r.ow, r.nd, r.out, r.dj, fun a ha => (r.fr a ha).imp id fun ⟨i, hi, z⟩ => ⟨i, hm i hi, z⟩⟩)
    (fun e env' he cls dx B' H' φ' r => hex e env' he cls dx B' H' φ' ⟨r.tr.mono hm, r.st, fun i hi => r.env i fun z => hi (hm i z), r.is⟩) hst
/-! #### frames -/
/-- what was made before, and belongs to no slot, stays -/
theorem Tr.own {φ φ' : Nat → List Addr} {B H B' H' : Hp} {d : D} {v : V} {F : List Addr} (x : Tr μ φ B H B' H' φ') (o : Own G B H d v F) (dj : ∀ a ∈ F, ∀ i, a ∉ φ i) : Own G B' H' d v F :=
  Own.mono x.bb o fun a ha u h => x.keep a u h fun i _ => dj a ha i
theorem Tr.owns {φ φ' : Nat → List Addr} {B H B' H' : Hp} {ds : List D} {vs : List V} {F : List Addr} (x : Tr μ φ B H B' H' φ') (o : Owns G B H ds vs F) (dj : ∀ a ∈ F, ∀ i, a ∉ φ i) : Owns G B' H' ds vs F :=
  Owns.mono x.bb o fun a ha u h => x.keep a u h fun i _ => dj a ha i
theorem Tr.out {φ φ' : Nat → List Addr} {B H B' H' : Hp} {F : List Addr} (x : Tr μ φ B H B' H' φ') (out : ∀ a ∈ F, B a = none) (dom : ∀ a ∈ F, ∃ o, H a = some o) (dj : ∀ a ∈ F, ∀ i, a ∉ φ i) : ∀ a ∈ F, B' a = none := fun a ha => by
  cases q : B' a with
  | none => rfl
  | some o =>
    rcases x.nw a o q (out a ha) with z | ⟨i, hi, z⟩
    · obtain ⟨u, z2⟩ := dom a ha; rw [z] at z2; cases z2
    · exact absurd z (dj a ha i)
theorem Tr.dj {φ φ' : Nat → List Addr} {B H B' H' : Hp} {F : List Addr} (x : Tr μ φ B H B' H' φ') (dom : ∀ a ∈ F, ∃ o, H a = some o) (dj : ∀ a ∈ F, ∀ i, a ∉ φ i) : ∀ a ∈ F, ∀ i, a ∉ φ' i := fun a ha i hi => by
  by_cases q : i ∈ μ
  · rcases x.fr i q a hi with z | ⟨j, hj, z⟩
    · obtain ⟨u, z2⟩ := dom a ha; rw [z] at z2; cases z2
    · exact dj a ha j z
  · exact dj a ha i (x.same i q a hi)
/-- .. a fresh thing made behind is another -/
theorem Tr.apart {φ φ' : Nat → List Addr} {B H : Hp} {F F' : List Addr} (dom : ∀ a ∈ F, ∃ o, H a = some o) (dj : ∀ a ∈ F, ∀ i, a ∉ φ i) (fr : ∀ a ∈ F', H a = none ∨ ∃ i ∈ μ, a ∈ φ i) : ∀ a ∈ F, ∀ b ∈ F', a ≠ b := fun a ha b hb e => by
  subst e
  rcases fr a hb with z | ⟨i, _, z⟩
  · obtain ⟨u, z2⟩ := dom a ha; rw [z] at z2; cases z2
  · exact dj a ha i z
theorem Tr.back {φ φ' : Nat → List Addr} {B H B' H' : Hp} {a : Addr} (x : Tr μ φ B H B' H' φ') (h : H' a = none ∨ ∃ i ∈ μ, a ∈ φ' i) : H a = none ∨ ∃ i ∈ μ, a ∈ φ i := by
  rcases h with h | ⟨i, hi, h⟩
  · cases q : H a with
    | none => exact .inl rfl
    | some o =>
      refine .inr (Classical.byContradiction fun z => ?_)
      have := x.keep a o q (fun i hi hc => z ⟨i, hi, hc⟩)
      rw [h] at this; cases this
  · exact x.fr i hi a h
theorem RsF.pre {φ φ1 φ2 : Nat → List Addr} {B H B1 H1 B2 H2 : Hp} {env env1 env2 : Env} {σ : L2.St} {d : D} {v : V} {F : List Addr} (x : Tr μ φ B H B1 H1 φ1) (e : ∀ i, i ∉ μ → env1[i]? = env[i]?) (r : RsF G μ φ1 B1 H1 env1 σ d env2 v B2 H2 φ2 F) : RsF G μ φ B H env σ d env2 v B2 H2 φ2 F :=
  ⟨x.trans r.tr, r.st, fun i hi => (r.env i hi).trans (e i hi), r.ow, r.nd, r.out, r.dj, fun a ha => x.back (r.fr a ha)⟩
theorem RsFA.pre {φ φ1 φ2 : Nat → List Addr} {B H B1 H1 B2 H2 : Hp} {env env1 env2 : Env} {σ : L2.St} {ds : List D} {vs : List V} {F : List Addr} (x : Tr μ φ B H B1 H1 φ1) (e : ∀ i, i ∉ μ → env1[i]? = env[i]?) (r : RsFA G μ φ1 B1 H1 env1 σ ds env2 vs B2 H2 φ2 F) : RsFA G μ φ B H env σ ds env2 vs B2 H2 φ2 F :=
  ⟨x.trans r.tr, r.st, fun i hi => (r.env i hi).trans (e i hi), r.ow, r.nd, r.out, r.dj, fun a ha => x.back (r.fr a ha)⟩
theorem RsFT.pre {φ φ1 φ2 : Nat → List Addr} {B H B1 H1 B2 H2 : Hp} {env env1 env2 : Env} {σ : L2.St} (x : Tr μ φ B H B1 H1 φ1) (e : ∀ i, i ∉ μ → env1[i]? = env[i]?) (r : RsFT G μ φ1 B1 H1 env1 σ env2 B2 H2 φ2) : RsFT G μ φ B H env σ env2 B2 H2 φ2 :=
  ⟨x.trans r.tr, r.st, fun i hi => (r.env i hi).trans (e i hi)⟩
theorem RxF.pre {φ φ1 φ2 : Nat → List Addr} {B H B1 H1 B2 H2 : Hp} {env env1 env2 : Env} {σ : L2.St} {e : Exc} {cls : Value} {dx : Option Addr} (x : Tr μ φ B H B1 H1 φ1) (q : ∀ i, i ∉ μ → env1[i]? = env[i]?) (r : RxF G μ φ1 B1 H1 env1 σ e env2 cls dx B2 H2 φ2) : RxF G μ φ B H env σ e env2 cls dx B2 H2 φ2 :=
  ⟨x.trans r.tr, r.st, fun i hi => (r.env i hi).trans (q i hi), r.is⟩

/-! #### the constructs, their parts changing slots -/
def fOp2 (g : D → D → R D) (fa fb : Ef D) : Ef D := fun env => (fa env).bind fun x env1 => (fb env1).bind fun y env2 => (g x y).ef env2
theorem simF_op2 {r : R2} {g : D → D → R D} {fa fb : Ef D} {p : Bool} (hg : ∀ x y e, g x y ≠ .exc e) (ho : Op2 G p r g) (ha : SimF G W μ ta fa) (hb : SimF G W μ tb fb) : SimF G W μ (tOp r ta tb) (fOp2 g fa fb) := fun B H env σ φ Q S hok hex hst => by
  refine ha B H env σ φ _ S (fun x env1 hx v B1 H1 φ1 F1 r1 => ?_) (fun e env' he cls dx B' H' φ' rx => hex e env' (by show (fa env).bind _ = _; rw [he]; rfl) cls dx B' H' φ' rx) (bindE_stk hst)
  have E1 : fOp2 g fa fb env = (fb env1).bind fun y env2 => (g x y).ef env2 := by show (fa env).bind _ = _; rw [hx]; rfl
  rw [E1] at hst
  refine hb B1 H1 env1 σ φ1 _ r1.st (fun y env2 hy w B2 H2 φ2 F2 r2 => ?_) (fun e env' he cls dx B' H' φ' rx => hex e env' (by rw [E1, he]; rfl) cls dx B' H' φ' (rx.pre r1.tr r1.env)) (bindE_stk hst)
  have E2 : fOp2 g fa fb env = (g x y).ef env2 := by rw [E1, hy]; rfl
  have st : g x y ≠ .stk := fun z => hst (by rw [hy]; show (g x y).ef env2 = _; rw [z]; rfl)
  have dom1 := r1.ow.dom
  have o1 := r2.tr.own r1.ow r1.dj
  have n12 := Tr.apart (μ := μ) (φ := φ1) (φ' := φ2) (B := B1) dom1 r1.dj r2.fr
  refine ho B2 H2 x y v w F1 F2 Q r2.st.ex o1 r2.ow r1.nd (r2.tr.out r1.out dom1 r1.dj) (fun d hd u B' H' F g3 o3 n3 out3 f3 => ?_) (hg x y) st
  refine hok d env2 (by rw [E2, hd]; rfl) u B' H' φ2 F ⟨(r1.tr.trans r2.tr).trans (.of_gr g3), r2.st.grow g3, fun i hi => (r2.env i hi).trans (r1.env i hi), o3, n3, out3, fun a ha' i hi => ?_, fun a ha' => ?_⟩
  · rcases f3 a ha' with z | ⟨_, z⟩
    · obtain ⟨o, h⟩ := r2.st.dom i a hi; rw [z] at h; cases h
    · exact r2.tr.dj dom1 r1.dj a z i hi
  · rcases f3 a ha' with z | ⟨_, z⟩
    · exact (r1.tr.trans r2.tr).back (.inl z)
    · exact r1.fr a z
def fTest (f : Ef D) : Ef Bool := fun env => (f env).bind fun d env1 => (toBl d).ef env1
theorem simF_test {fa : Ef D} (h : SimF G W μ ta fa) : SimFT G W μ (tTest ta) (fTest fa) := fun B H env σ φ Q S hok hex hst => by
  refine h B H env σ φ _ S (fun d env1 hd v B1 H1 φ1 F r => ?_) (fun e env' he cls dx B' H' φ' rx => hex e env' (by show (fa env).bind _ = _; rw [he]; rfl) cls dx B' H' φ' rx) (bindE_stk hst)
  have E : fTest fa env = (toBl d).ef env1 := by show (fa env).bind _ = _; rw [hd]; rfl
  cases d with
  | bl b => exact ⟨b, r.ow.1, hok b env1 E B1 H1 φ1 ⟨r.tr, r.st, r.env⟩⟩
  | _ => exact absurd E hst
def fIf (f : Ef Bool) (g h : Ef D) : Ef D := fun env => (f env).bind fun b env1 => if b = true then g env1 else h env1
theorem simF_if {ft : Ef Bool} {fa fb : Ef D} (h : SimFT G W μ tt ft) (ha : SimF G W μ ta fa) (hb : SimF G W μ tb fb) : SimF G W μ (tIf tt ta tb) (fIf ft fa fb) := fun B H env σ φ Q S hok hex hst => by
  refine h B H env σ φ _ S (fun b env1 hb' B1 H1 φ1 g => ?_) (fun e env' he cls dx B' H' φ' rx => hex e env' (by show (ft env).bind _ = _; rw [he]; rfl) cls dx B' H' φ' rx) (bindE_stk hst)
  have E : fIf ft fa fb env = if b = true then fa env1 else fb env1 := by show (ft env).bind _ = _; rw [hb']; rfl
  cases b with
  | true => exact ha B1 H1 env1 σ φ1 _ g.st (fun d env' hd v B' H' φ' F r => hok d env' (E.trans hd) v B' H' φ' F (r.pre g.tr g.env)) (fun e env' he cls dx B' H' φ' r => hex e env' (E.trans he) cls dx B' H' φ' (r.pre g.tr g.env)) (fun z => hst (E.trans z))
  | false => exact hb B1 H1 env1 σ φ1 _ g.st (fun d env' hd v B' H' φ' F r => hok d env' (E.trans hd) v B' H' φ' F (r.pre g.tr g.env)) (fun e env' he cls dx B' H' φ' r => hex e env' (E.trans he) cls dx B' H' φ' (r.pre g.tr g.env)) (fun z => hst (E.trans z))
def fNil : Ef (List D) := fun env => .ok [] env
def fCons (f : Ef D) (g : Ef (List D)) : Ef (List D) := fun env => (f env).bind fun d env1 => (g env1).bind fun ds env2 => .ok (d :: ds) env2
theorem simFA_nil : SimFA G W μ tNil fNil := fun B H env σ φ Q S hok hex hst => hok [] env rfl [] B H φ [] ⟨.refl S.ex, S, fun _ _ => rfl, Owns.nil, .nil, fun _ h => (nomatch h), fun _ h => (nomatch h), fun _ h => (nomatch h)⟩
theorem simFA_cons {fa : Ef D} {fr : Ef (List D)} (h : SimF G W μ ta fa) (hr : SimFA G W μ tr fr) : SimFA G W μ (tCons ta tr) (fCons fa fr) := fun B H env σ φ Q S hok hex hst => by
  refine h B H env σ φ _ S (fun d env1 hd v B1 H1 φ1 F1 r1 => ?_) (fun e env' he cls dx B' H' φ' rx => hex e env' (by show (fa env).bind _ = _; rw [he]; rfl) cls dx B' H' φ' rx) (bindE_stk hst)
  have E1 : fCons fa fr env = (fr env1).bind fun ds env2 => .ok (d :: ds) env2 := by show (fa env).bind _ = _; rw [hd]; rfl
  rw [E1] at hst
  refine hr B1 H1 env1 σ φ1 _ r1.st (fun ds env2 hds vs B2 H2 φ2 F2 r2 => ?_) (fun e env' he cls dx B' H' φ' rx => hex e env' (by rw [E1, he]; rfl) cls dx B' H' φ' (rx.pre r1.tr r1.env)) (bindE_stk hst)
  have dom1 := r1.ow.dom
  refine hok (d :: ds) env2 (by rw [E1, hds]; rfl) (v :: vs) B2 H2 φ2 (F1 ++ F2) ⟨r1.tr.trans r2.tr, r2.st, fun i hi => (r2.env i hi).trans (r1.env i hi), Owns.cons (r2.tr.own r1.ow r1.dj) r2.ow, ?_, fun a ha => ?_, fun a ha => ?_, fun a ha => ?_⟩
  · exact List.nodup_append.mpr ⟨r1.nd, r2.nd, Tr.apart (μ := μ) (φ := φ1) (φ' := φ2) (B := B1) dom1 r1.dj r2.fr⟩
  · rcases List.mem_append.mp ha with ha | ha
    · exact r2.tr.out r1.out dom1 r1.dj a ha
    · exact r2.out a ha
  · rcases List.mem_append.mp ha with ha | ha
    · exact r2.tr.dj dom1 r1.dj a ha
    · exact r2.dj a ha
  · rcases List.mem_append.mp ha with ha | ha
    · exact r1.fr a ha
    · exact r1.tr.back (r2.fr a ha)
def fTup (f : Ef (List D)) : Ef D := fun env => (f env).bind fun ds env1 => if ds.length ≤ sizeLine then .ok (.tup ds) env1 else .stk
def fLst (f : Ef (List D)) : Ef D := fun env => (f env).bind fun ds env1 => if ds.length ≤ sizeLine then .ok (.own ds) env1 else .stk
theorem simF_tup {fr : Ef (List D)} (h : SimFA G W μ tr fr) : SimF G W μ (tTup tr) (fTup fr) := fun B H env σ φ Q S hok hex hst => by
  refine h B H env σ φ _ S (fun ds env1 hd vs B' H' φ1 F r => ?_) (fun e env' he cls dx B' H' φ' rx => hex e env' (by show (fr env).bind _ = _; rw [he]; rfl) cls dx B' H' φ' rx) (bindE_stk hst)
  have E : fTup fr env = if ds.length ≤ sizeLine then .ok (.tup ds) env1 else .stk := by show (fr env).bind _ = _; rw [hd]; rfl
  by_cases c : ds.length ≤ sizeLine
  · rw [if_pos c] at E
    refine ⟨by rw [← r.ow.length]; exact c, fun p hp => ?_⟩
    have g := Gr.new (o := .tup vs) r.st.ex hp
    have pF : p ∉ F := fun z => by obtain ⟨o, q⟩ := r.ow.dom p z; rw [hp] at q; cases q
    refine hok (.tup ds) env1 E (.ref p) _ _ φ1 F ⟨r.tr.trans (.of_gr g), r.st.grow g, r.env, ⟨p, vs, F, rfl, Owns.mono g.bb r.ow (fun a _ o => g.hh a o), upd_same, rfl, fun _ z => absurd rfl z⟩, r.nd, fun a ha => ?_, r.dj, r.fr⟩
    rw [upd_ne (fun z => pF (by rw [← z]; exact ha))]
    exact r.out a ha
  · rw [if_neg c] at E; exact absurd E hst
theorem simF_lst {fr : Ef (List D)} (h : SimFA G W μ tr fr) : SimF G W μ (tLst tr) (fLst fr) := fun B H env σ φ Q S hok hex hst => by
  refine h B H env σ φ _ S (fun ds env1 hd vs B' H' φ1 F r => ?_) (fun e env' he cls dx B' H' φ' rx => hex e env' (by show (fr env).bind _ = _; rw [he]; rfl) cls dx B' H' φ' rx) (bindE_stk hst)
  have E : fLst fr env = if ds.length ≤ sizeLine then .ok (.own ds) env1 else .stk := by show (fr env).bind _ = _; rw [hd]; rfl
  by_cases c : ds.length ≤ sizeLine
  · rw [if_pos c] at E
    refine ⟨by rw [← r.ow.length]; exact c, fun p hp => ?_⟩
    have g := Gr.newO (o := .lst vs) r.st.ex hp
    have pF : p ∉ F := fun z => by obtain ⟨o, q⟩ := r.ow.dom p z; rw [hp] at q; cases q
    refine hok (.own ds) env1 E (.ref p) B' _ φ1 (p :: F) ⟨r.tr.trans (.of_gr g), r.st.grow g, r.env, ⟨p, vs, F, rfl, Owns.mono (Ex.refl _) r.ow (fun a _ o => g.hh a o), ⟨upd_same, _, upd_same⟩, rfl, fun z => nomatch z⟩, List.nodup_cons.mpr ⟨pF, r.nd⟩, fun a ha => ?_, fun a ha i hi => ?_, fun a ha => ?_⟩
    · rcases List.mem_cons.mp ha with rfl | ha
      · exact none_back r.st.ex hp
      · exact r.out a ha
    · rcases List.mem_cons.mp ha with rfl | ha
      · obtain ⟨o, q⟩ := r.st.dom i _ hi; rw [hp] at q; cases q
      · exact r.dj a ha i hi
    · rcases List.mem_cons.mp ha with rfl | ha
      · exact r.tr.back (.inl hp)
      · exact r.fr a ha
  · rw [if_neg c] at E; exact absurd E hst
def fCB (g : List D → R D) (f : Ef (List D)) : Ef D := fun env => (f env).bind fun ds env1 => (g ds).ef env1
theorem simF_CB {r : List V → Hp → VK → Prop} {g : List D → R D} {fr : Ef (List D)} (hg : ∀ ds e, g ds ≠ .exc e) (ho : OpA G r g) (h : SimFA G W μ tr fr) : SimF G W μ (tCB r tr) (fCB g fr) := fun B H env σ φ Q S hok hex hst => by
  refine h B H env σ φ _ S (fun ds env1 hd vs B1 H1 φ1 F r1 => ?_) (fun e env' he cls dx B' H' φ' rx => hex e env' (by show (fr env).bind _ = _; rw [he]; rfl) cls dx B' H' φ' rx) (bindE_stk hst)
  have E : fCB g fr env = (g ds).ef env1 := by show (fr env).bind _ = _; rw [hd]; rfl
  refine ho B1 H1 ds vs F Q r1.st.ex r1.ow (fun d hd u B' H' F' g' o' n' out' f' => ?_) (fun z => hst (by rw [E, z]; rfl))
  exact hok d env1 (by rw [E, hd]; rfl) u B' H' φ1 F' ⟨r1.tr.trans (.of_gr g'), r1.st.grow g', r1.env, o', n', out', fun a ha i hi => (by
    obtain ⟨o, q⟩ := r1.st.dom i a hi
    rw [f' a ha] at q; cases q), fun a ha => r1.tr.back (.inl (f' a ha))⟩
/-- freezing -/
def fFz (f : Ef D) : Ef D := fun env => (f env).bind fun d env1 => .ok (frz d) env1
theorem Sta.freeze {B H : Hp} {env : Env} {σ : L2.St} {φ : Nat → List Addr} {d : D} {v : V} {F : List Addr} (S : Sta G B H env σ φ) (o : Own G B H d v F) (out : ∀ a ∈ F, B a = none) (dj : ∀ a ∈ F, ∀ i, a ∉ φ i) :
    ∃ B', Ex B B' ∧ Own G B' H (frz d) v [] ∧ Sta G B' H env σ φ ∧ (∀ a u, B' a = some u → B a = none → a ∈ F) := by
  have hb : Ex B (fun a => if a ∈ F then H a else B a) := fun a u q => by
    show (if a ∈ F then H a else B a) = some u
    rw [if_neg (fun z => by rw [out a z] at q; cases q)]; exact q
  refine ⟨fun a => if a ∈ F then H a else B a, hb, Own.frz hb o (fun a ha u q => by show (if a ∈ F then H a else B a) = some u; rw [if_pos ha]; exact q), ⟨fun a u q => ?_, S.len, fun i e h => ?_, S.nd, S.dj, fun i a ha => ?_, S.dom⟩, fun a u q1 q2 => ?_⟩
  · have q' : (if a ∈ F then H a else B a) = some u := q
    split at q'
    · exact q'
    · exact S.ex a u q'
  · exact (S.slot i e h).imp id fun ⟨w, h1, h2⟩ => ⟨w, h1, Own.mono hb h2 (fun _ _ _ h => h)⟩
  · show (if a ∈ F then H a else B a) = none
    rw [if_neg (fun z => dj a z i ha)]; exact S.out i a ha
  · have q' : (if a ∈ F then H a else B a) = some u := q1
    by_cases z : a ∈ F
    · exact z
    · rw [if_neg z, q2] at q'; cases q'
theorem simF_fz {fa : Ef D} (h : SimF G W μ ta fa) : SimF G W μ ta (fFz fa) := fun B H env σ φ Q S hok hex hst => by
  refine h B H env σ φ _ S (fun d env1 hd v B1 H1 φ1 F r => ?_) (fun e env' he cls dx B' H' φ' rx => hex e env' (by show (fa env).bind _ = _; rw [he]; rfl) cls dx B' H' φ' rx) (bindE_stk hst)
  have E : fFz fa env = .ok (frz d) env1 := by show (fa env).bind _ = _; rw [hd]; rfl
  obtain ⟨B2, b1, b2, b3, b4⟩ := r.st.freeze r.ow r.out r.dj
  refine hok _ env1 E v B2 H1 φ1 [] ⟨⟨r.tr.bb.trans b1, r.tr.keep, fun a o q1 q2 => ?_, r.tr.same, r.tr.fr⟩, b3, r.env, b2, .nil, fun _ h => (nomatch h), fun _ h => (nomatch h), fun _ h => (nomatch h)⟩
  cases q : B1 a with
  | some u => exact r.tr.nw a u q q2
  | none => exact r.fr a (b4 a o q1 q)
/-- a slot's value is moved out -/
def fMv (i : Nat) : Ef D := fun env => match env[i]? with
  | some .unk => .stk
  | some d => .ok d (env.set i .unk)
  | none => .stk
theorem simF_mv {i : Nat} (hi : i ∈ μ) : SimF G W μ (tVar i) (fMv i) := fun B H env σ φ Q S hok hex hst => by
  have key : ∀ d, env[i]? = some d → d ≠ .unk → fMv i env = .ok d (env.set i .unk) := fun d h1 h2 => by
    unfold fMv; rw [h1]; cases d <;> first | rfl | exact absurd rfl h2
  cases q : env[i]? with
  | none => exact absurd (by unfold fMv; rw [q]) hst
  | some d =>
    by_cases hu : d = .unk
    · exact absurd (by unfold fMv; rw [q, hu]) hst
    rcases S.slot i d q with h | ⟨v, h1, h2⟩
    · exact absurd h hu
    refine ⟨v, h1, hok d _ (key d q hu) v B H (fun j => if j = i then [] else φ j) (φ i) ⟨⟨Ex.refl B, fun a o h _ => h, fun a o h1 h2 => by (rw [h1] at h2; cases h2), fun j hj a ha => (by rw [if_neg (fun z => hj (by rw [z]; exact hi))] at ha; exact ha), fun j hj a ha => ?_⟩, ⟨S.ex, by rw [List.length_set]; exact S.len, fun j e h => ?_, fun j => ?_, fun j k hjk a ha hb => ?_, fun j a ha => ?_, fun j a ha => ?_⟩, fun j hj => List.getElem?_set_ne (fun z => hj (by rw [← z]; exact hi)), h2, S.nd i, S.out i, fun a ha j hj => ?_, fun a ha => .inr ⟨i, hi, ha⟩⟩⟩
    · have ha' : a ∈ (if j = i then [] else φ j) := ha
      split at ha'
      · cases ha'
      · exact .inr ⟨j, hj, ha'⟩
    · by_cases z : i = j
      · subst z
        by_cases hl : i < env.length
        · rw [List.getElem?_set_self hl] at h; cases h; exact .inl rfl
        · rw [List.getElem?_eq_none (by rw [List.length_set]; omega)] at h; cases h
      · rw [List.getElem?_set_ne z] at h
        rw [if_neg (Ne.symm z)]
        exact S.slot j e h
    · show (if j = i then [] else φ j).Nodup
      split
      · exact .nil
      · exact S.nd j
    · have ha' : a ∈ (if j = i then [] else φ j) := ha
      have hb' : a ∈ (if k = i then [] else φ k) := hb
      split at ha'
      · cases ha'
      · split at hb'
        · cases hb'
        · exact S.dj j k hjk a ha' hb'
    · have ha' : a ∈ (if j = i then [] else φ j) := ha
      split at ha'
      · cases ha'
      · exact S.out j a ha'
    · have ha' : a ∈ (if j = i then [] else φ j) := ha
      split at ha'
      · cases ha'
      · exact S.dom j a ha'
    · have hj' : a ∈ (if j = i then [] else φ j) := hj
      split at hj'
      · cases hj'
      · rename_i z; exact S.dj i j (Ne.symm z) a ha hj'
end
end DP


set_option Elab.async false
set_option linter.all false
set_option maxRecDepth 100000
set_option maxHeartbeats 4000000
namespace DP
open PySem L2 Evl

def nxE {α : Type} : RE α → RE α
  | .ok a e => .ok a e
  | _ => .stk
@[simp] theorem nxE_ok' {α : Type} (a : α) (e : Env) : nxE (.ok a e) = .ok a e := rfl
theorem nxE_ok {α : Type} {r : RE α} {a : α} {e : Env} (h : nxE r = .ok a e) : r = .ok a e := by cases r <;> first | exact h | cases h
theorem nxE_noexc {α : Type} {r : RE α} {x : Exc} {e : Env} : nxE r ≠ .exc x e := by cases r <;> exact fun h => nomatch h
def restD (env envs : Env) : List Nat → Env
  | [] => envs
  | v :: vs => (restD env envs vs).set v (env.getD v .unk)
theorem restD_len (env envs : Env) : ∀ vs, (restD env envs vs).length = envs.length
  | [] => rfl
  | v :: vs => by unfold restD; rw [List.length_set, restD_len env envs vs]
theorem restD_get (env envs : Env) (j : Nat) : ∀ vs, (restD env envs vs)[j]? = if j ∈ vs ∧ j < envs.length then some (env.getD j .unk) else envs[j]?
  | [] => by simp [restD]
  | v :: vs => by
    unfold restD
    by_cases q : v = j
    · subst q
      by_cases hl : v < envs.length
      · rw [if_pos ⟨List.mem_cons_self, hl⟩, List.getElem?_set_self (by rw [restD_len]; exact hl)]
      · rw [if_neg (fun z => hl z.2), List.getElem?_eq_none (by rw [List.length_set, restD_len]; omega), List.getElem?_eq_none (by omega)]
    · rw [List.getElem?_set_ne q, restD_get env envs j vs]
      have : j ∈ v :: vs ↔ j ∈ vs := by simp [Ne.symm q]
      simp only [this]
theorem wipeD_len (env : Env) : ∀ vs, (wipeD env vs).length = env.length
  | [] => rfl
  | v :: vs => by unfold wipeD; rw [List.length_set, wipeD_len env vs]
theorem wipeD_get (env : Env) (j : Nat) : ∀ vs, (wipeD env vs)[j]? = if j ∈ vs ∧ j < env.length then some .unk else env[j]?
  | [] => by simp [wipeD]
  | v :: vs => by
    unfold wipeD
    by_cases q : v = j
    · subst q
      by_cases hl : v < env.length
      · rw [if_pos ⟨List.mem_cons_self, hl⟩, List.getElem?_set_self (by rw [wipeD_len]; exact hl)]
      · rw [if_neg (fun z => hl z.2), List.getElem?_eq_none (by rw [List.length_set, wipeD_len]; omega), List.getElem?_eq_none (by omega)]
    · rw [List.getElem?_set_ne q, wipeD_get env j vs]
      have : j ∈ v :: vs ↔ j ∈ vs := by simp [Ne.symm q]
      simp only [this]
def fLcGo (g : D → Env → R Env) (c : Ef Bool) (el : Ef D) (vs : List Nat) : List D → Ef (List D)
  | [], env => .ok [] env
  | d :: ds, env => ((nx (g d env)).ef env).bind fun env1 _ => (nxE (c env1)).bind fun b env2 => if b = true then (nxE (el env2)).bind fun x env3 => (fLcGo g c el vs ds (wipeD env3 vs)).bind fun r env4 => .ok (x :: r) env4 else fLcGo g c el vs ds (wipeD env2 vs)
def fYes : Ef Bool := fun env => .ok true env
theorem nx_noexc {α : Type} {r : R α} {x : Exc} : nx r ≠ .exc x := by cases r <;> exact fun h => nomatch h
theorem fLcGo_noexc {g : D → Env → R Env} {c : Ef Bool} {el : Ef D} {vs : List Nat} : ∀ {ds : List D} {env : Env} {e : Exc} {env' : Env}, fLcGo g c el vs ds env ≠ .exc e env'
  | [], _, _, _ => fun h => nomatch h
  | d :: ds, env, e, env' => by
    intro h
    unfold fLcGo at h
    cases h1 : nx (g d env) with
    | stk => rw [h1] at h; cases h
    | exc e => exact nx_noexc h1
    | ok env1 =>
      rw [h1, R.ef_ok, RE.bind_ok] at h
      cases h2 : nxE (c env1) with
      | stk => rw [h2] at h; cases h
      | exc e => exact nxE_noexc h2
      | ok b env2 =>
        rw [h2, RE.bind_ok] at h
        cases b with
        | false => rw [if_neg Bool.false_ne_true] at h; exact fLcGo_noexc h
        | true =>
          rw [if_pos rfl] at h
          cases h3 : nxE (el env2) with
          | stk => rw [h3] at h; cases h
          | exc e => exact nxE_noexc h3
          | ok x env3 =>
            rw [h3, RE.bind_ok] at h
            cases h4 : fLcGo g c el vs ds (wipeD env3 vs) with
            | stk => rw [h4] at h; cases h
            | exc e => exact fLcGo_noexc h4
            | ok r => rw [h4] at h; cases h
theorem Sta.updO {G : Gx} {B H : Hp} {env : Env} {σ : L2.St} {φ : Nat → List Addr} {p : Addr} {o : HO} (S : Sta G B H env σ φ) (hb : B p = none) (hp : ∀ i, p ∉ φ i) : Sta G B (upd H p o) env σ φ where
  ex := fun a u h => by
    have : a ≠ p := fun z => by rw [z, hb] at h; cases h
    rw [upd_ne this]; exact S.ex a u h
  len := S.len
  slot := fun i d h => (S.slot i d h).imp id fun ⟨v, h1, h2⟩ => ⟨v, h1, Own.mono (Ex.refl B) h2 fun a ha u q => by
    rw [upd_ne (fun z => hp i (by rw [← z]; exact ha))]; exact q⟩
  nd := S.nd
  dj := S.dj
  out := S.out
  dom := fun i a ha => by
    obtain ⟨u, q⟩ := S.dom i a ha
    exact ⟨u, by rw [upd_ne (fun z => hp i (by rw [← z]; exact ha))]; exact q⟩
/-- the block's own names fall away, what they hid stands again -/
theorem Sta.rest {G : Gx} {B H B' H' : Hp} {env envs : Env} {σ : L2.St} {φ φ' : Nat → List Addr} {μ vs : List Nat} (S : Sta G B H env σ φ) (S' : Sta G B' H' envs (L2.wipe σ vs) φ') (T : Tr μ φ B H B' H' φ') (hv : ∀ i ∈ vs, i ∉ μ) (hs : ∀ i ∈ vs, ∀ d, env[i]? = some d → shd d = true) : Sta G B' H' (restD env envs vs) σ φ' where
  ex := S'.ex
  len := by rw [restD_len, S'.len, wipe_length]
  slot := fun i d h => by
    rw [restD_get] at h
    split at h
    · rename_i c
      cases h
      cases q : env[i]? with
      | none => exact .inl (by rw [List.getD_eq_getElem?_getD, q]; rfl)
      | some d =>
        rw [List.getD_eq_getElem?_getD, q]
        refine (S.slot i d q).imp id fun ⟨v, h1, h2⟩ => ⟨v, h1, ?_⟩
        have e1 := h2.shd (hs i c.1 d q)
        rw [e1] at h2
        have e2 : φ' i = [] := List.eq_nil_iff_forall_not_mem.mpr fun a ha => by
          have := T.same i (hv i c.1) a ha
          rw [e1] at this; cases this
        show Own G B' H' d v (φ' i)
        rw [e2]
        exact Own.mono (H := H) T.bb h2 (fun _ h => nomatch h)
    · rename_i c
      rcases S'.slot i d h with z | ⟨v, h1, h2⟩
      · exact .inl z
      · refine .inr ⟨v, ?_, h2⟩
        rw [wipe_get] at h1
        split at h1
        · split at h1 <;> cases h1
        · exact h1
  nd := S'.nd
  dj := S'.dj
  out := S'.out
  dom := S'.dom
def vsOk (env : Env) (vs : List Nat) : Bool := vs.all fun v => match env[v]? with
  | some d => shd d
  | none => true
theorem vsOk_at {env : Env} {vs : List Nat} (h : vsOk env vs = true) : ∀ i ∈ vs, ∀ d, env[i]? = some d → shd d = true := fun i hi d e => by
  have := List.all_eq_true.mp h i hi
  rw [e] at this
  exact this
def fLc (src : Env → R (List D)) (g : D → Env → R Env) (c : Ef Bool) (el : Ef D) (vs : List Nat) : Ef D := fun env => ((src env).ef env).bind fun ds env0 => if ds.length ≤ sizeLine ∧ vsOk env vs = true then (fLcGo g c el vs ds (wipeD env0 vs)).bind fun out env1 => .ok (.own out) (restD env env1 vs) else .stk
section
variable {G : Gx} {W : WX} {m m1 m2 : Option Nat} {te : TE} {fe : Ef D} {tt : TT} {ft : Ef Bool} {wi : TI} {fi : Env → R (List D)} {g : TG} {b : D → Env → R Env} {sl vs μ : List Nat}
theorem simFT_yes : SimFT G W μ tYes fYes := fun B H env σ φ Q S hok hex hst => hok true env rfl B H φ ⟨.refl S.ex, S, fun _ _ => rfl⟩
theorem simF_lc (hi : SimI G W m1 wi fi) (hm : ∀ r, m1 = some r → r ∉ μ) (hg : SimG G sl g b) (hs : ∀ j ∈ sl, j ∈ vs) (hv : ∀ i ∈ vs, i ∉ μ) (ht : SimFT G W0 μ tt ft) (he : SimF G W0 μ te fe) : SimF G W μ (tLc wi g tt te vs) (fLc fi b ft fe vs) := fun B H env σ φ Q S hok hex hst => by
  refine hi B H env σ φ _ S (fun ds hd J B1 H1 Fs g1 Y fs => ?_) (fun e he cls dx B' H' rx => hex e env (by show ((fi env).ef env).bind _ = _; rw [he]; rfl) cls dx B' H' φ (rx.rxF S)) (fun z => hst (by show ((fi env).ef env).bind _ = _; rw [z]; rfl))
  have E : fLc fi b ft fe vs env = if ds.length ≤ sizeLine ∧ vsOk env vs = true then (fLcGo b ft fe vs ds (wipeD env vs)).bind fun out env1 => .ok (.own out) (restD env env1 vs) else .stk := by show ((fi env).ef env).bind _ = _; rw [hd]; rfl
  rw [E] at hst
  by_cases cl' : ¬ (ds.length ≤ sizeLine ∧ vsOk env vs = true)
  · rw [if_neg cl'] at hst; exact absurd rfl hst
  have cl := Decidable.not_not.mp cl'
  rw [if_pos cl] at hst E
  cases q0 : fLcGo b ft fe vs ds (wipeD env vs) with
  | stk => rw [q0] at hst; exact absurd rfl hst
  | exc e => exact absurd q0 fLcGo_noexc
  | ok out envE =>
  have S0 := S.grow g1
  have S1 := S0.wipe vs
  have fsφ : ∀ a ∈ Fs, ∀ i ∈ μ, a ∉ φ i := fun a ha i hi hc => by
    rcases (fs a ha).2 with z | ⟨r, hr, z⟩
    · obtain ⟨o, q⟩ := S.dom i a hc; rw [z] at q; cases q
    · exact S.dj r i (fun e => hm r hr (e ▸ hi)) a z hc
  have ltOf : ∀ {B' H' : Hp} {φ' : Nat → List Addr}, Tr μ φ B1 H1 B' H' φ' → Ex B' H' → Lt Fs B1 H1 B' H' := fun T e => ⟨T.bb, e, fun a ha o q => T.keep a o q fun i hi => fsφ a ha i hi⟩
  intro Dl hD
  have bD1 : B1 Dl = none := none_back g1.bh hD
  have pD1 : ∀ i, Dl ∉ φ i := fun i z => by obtain ⟨o, q⟩ := S0.dom i _ z; rw [hD] at q; cases q
  refine ⟨fun i mm H' => mm = ds.length - i ∧ i ≤ ds.length ∧ ∃ B' envs φ' accD accV F r, Tr μ φ B1 H1 B' H' φ' ∧ Sta G B' H' envs (L2.wipe σ vs) φ' ∧ (∀ j, j ∉ μ → envs[j]? = (wipeD env vs)[j]?) ∧ B' Dl = none ∧ (∀ j, Dl ∉ φ' j) ∧ H' Dl = some (.lst accV) ∧ Owns G B' H' accD accV F ∧ (Dl :: F).Nodup ∧ (∀ a ∈ F, B' a = none) ∧ (∀ a ∈ F, ∀ j, a ∉ φ' j) ∧ (∀ a ∈ F, H1 a = none ∨ ∃ j ∈ μ, a ∈ φ j) ∧ fLcGo b ft fe vs (ds.drop i) envs = .ok r envE ∧ out = accD ++ r ∧ accD.length ≤ i,
    ⟨ds.length, by simp, Nat.zero_le _, B1, wipeD env vs, φ, [], [], [], out, ?_, S1.updO bD1 pD1, fun _ _ => rfl, bD1, pD1, upd_same, Owns.nil, by simp, fun _ h => (nomatch h), fun _ h => (nomatch h), fun _ h => (nomatch h), by rw [List.drop_zero]; exact q0, rfl, Nat.le_refl _⟩, ?_⟩
  · exact .of_gr (Gr.newO g1.bh hD)
  rintro i mm H2 ⟨rfl, hi2, B2, envs, φ2, accD, accV, F, r, T2, S2, en2, bD, pD, hDl, ow, nd, out', dj', fr, qr, eo, hacc⟩
  have lt2 : Lt Fs B1 H1 B2 H2 := ltOf T2 S2.ex
  by_cases hlt : i < ds.length
  · refine .inr ⟨Y.go i B2 H2 lt2 hlt, fun H' => ∃ B' envs φ' accD accV F r, Tr μ φ B1 H1 B' H' φ' ∧ Sta G B' H' envs (L2.wipe σ vs) φ' ∧ (∀ j, j ∉ μ → envs[j]? = (wipeD env vs)[j]?) ∧ B' Dl = none ∧ (∀ j, Dl ∉ φ' j) ∧ H' Dl = some (.lst accV) ∧ Owns G B' H' accD accV F ∧ (Dl :: F).Nodup ∧ (∀ a ∈ F, B' a = none) ∧ (∀ a ∈ F, ∀ j, a ∉ φ' j) ∧ (∀ a ∈ F, H1 a = none ∨ ∃ j ∈ μ, a ∈ φ j) ∧ fLcGo b ft fe vs (ds.drop (i + 1)) envs = .ok r envE ∧ out = accD ++ r ∧ accD.length ≤ i + 1,
      fun H' w => ⟨ds.length - (i + 1), by omega, rfl, hlt, w⟩, fun x H3 y => ?_⟩
    obtain ⟨d, B3, hdi, g3, od⟩ := Y.yl i x B2 H2 H3 lt2 hlt y
    have ed : ds.drop i = d :: ds.drop (i + 1) := by
      obtain ⟨h1, h2⟩ := List.getElem?_eq_some_iff.mp hdi
      rw [← h2]; exact List.drop_eq_getElem_cons h1
    rw [ed] at qr
    unfold fLcGo at qr
    have S3 := S2.grow g3
    cases q1 : nx (b d envs) with
    | stk => rw [q1] at qr; cases qr
    | exc e => exact absurd q1 nx_noexc
    | ok env1 =>
    have q1' := nx_ok q1
    rw [q1, R.ef_ok, RE.bind_ok] at qr
    refine hg B3 H3 envs (L2.wipe σ vs) φ2 d x _ S3 od (fun env' he' σ' φ' S' p' k' l' => ?_) (fun e z => by rw [z] at q1'; cases q1') (fun z => by rw [z] at q1'; cases q1')
    rw [q1'] at he'; cases he'
    have wσ : L2.wipe σ' vs = L2.wipe σ vs := wipe_same (by rw [l', wipe_length]) (fun j hj => (k' j (fun z => hj (hs j z))).1)
    refine ⟨wσ, ?_⟩
    -- the targets own nothing
    have sub : ∀ j, ∀ a ∈ φ' j, a ∈ φ2 j := fun j a ha => by
      rcases p' j with z | ⟨z, _⟩
      · rw [z] at ha; exact ha
      · rw [z] at ha; cases ha
    have T3 : Tr μ φ B1 H1 B3 H3 φ' := T2.trans ((Tr.of_gr g3).trans ⟨Ex.refl _, fun a o h _ => h, fun a o h1 h2 => by (rw [h1] at h2; cases h2), fun j _ => sub j, fun j hj a ha => .inr ⟨j, hj, sub j a ha⟩⟩)
    have dF3 : ∀ a ∈ F, ∃ o, H3 a = some o := fun a ha => let ⟨o, q⟩ := ow.dom a ha; ⟨o, g3.hh a o q⟩
    have o3 : Owns G B3 H3 accD accV F := Owns.mono g3.bb ow (fun a _ o => g3.hh a o)
    have j3 : ∀ a ∈ F, ∀ j, a ∉ φ' j := fun a ha j z => dj' a ha j (sub j a z)
    have x3 : ∀ a ∈ F, B3 a = none := out_grow g3 out' ow.dom
    have pD3 : ∀ j, Dl ∉ φ' j := fun j z => pD j (sub j _ z)
    have dD3 := g3.hh _ _ hDl
    have bD3 : B3 Dl = none := out_grow (F := [Dl]) g3 (fun a ha => by rw [List.mem_singleton.mp ha]; exact bD) (fun a ha => by rw [List.mem_singleton.mp ha]; exact ⟨_, hDl⟩) Dl (by simp)
    have en1 : ∀ j, j ∉ vs → j ∉ μ → env1[j]? = (wipeD env vs)[j]? := fun j h1 h2 => (k' j (fun z => h1 (hs j z))).2.trans (en2 j h2)
    have wen : ∀ {envx : Env} {σx : L2.St} {B' H' : Hp} {φx : Nat → List Addr}, Sta G B' H' envx σ' φx → (∀ j, j ∉ μ → envx[j]? = env1[j]?) → ∀ j, j ∉ μ → (wipeD envx vs)[j]? = (wipeD env vs)[j]? := fun {envx σx B' H' φx} Sx ex j hj => by
      have l1 : envx.length = env.length := by rw [Sx.len, l', wipe_length, ← S.len]
      rw [wipeD_get, wipeD_get, l1]
      by_cases z : j ∈ vs ∧ j < env.length
      · rw [if_pos z, if_pos z]
      · rw [if_neg z, if_neg z, ex j hj]
        by_cases zl : j ∈ vs
        · have nl : ¬ j < env.length := fun y => z ⟨zl, y⟩
          have l2 : env1.length = env.length := by rw [S'.len, l', wipe_length, ← S.len]
          rw [List.getElem?_eq_none (by omega), List.getElem?_eq_none (by omega)]
        · rw [en1 j zl hj, wipeD_get, if_neg z]
    cases q2 : nxE (ft env1) with
    | stk => rw [q2] at qr; cases qr
    | exc e => exact absurd q2 nxE_noexc
    | ok bb env2 =>
    have q2' := nxE_ok q2
    rw [q2, RE.bind_ok] at qr
    refine ht B3 H3 env1 σ' φ' _ S' (fun b' env2' hb' B4 H4 φ4 r4 => ?_) (fun e env' z => by rw [z] at q2'; cases q2') (fun z => by rw [z] at q2'; cases q2')
    rw [q2'] at hb'; cases hb'
    have T4 := r4.tr
    have pD4 : ∀ j, Dl ∉ φ4 j := T4.dj (F := [Dl]) (fun a ha => by rw [List.mem_singleton.mp ha]; exact ⟨_, dD3⟩) (fun a ha => by rw [List.mem_singleton.mp ha]; exact pD3) Dl (by simp)
    have bD4 : B4 Dl = none := T4.out (F := [Dl]) (fun a ha => by rw [List.mem_singleton.mp ha]; exact bD3) (fun a ha => by rw [List.mem_singleton.mp ha]; exact ⟨_, dD3⟩) (fun a ha => by rw [List.mem_singleton.mp ha]; exact pD3) Dl (by simp)
    have dD4 : H4 Dl = some (.lst accV) := T4.keep _ _ dD3 (fun j _ => pD3 j)
    have o4 := T4.owns o3 j3
    have x4 := T4.out x3 dF3 j3
    have j4 := T4.dj dF3 j3
    cases bb with
    | false =>
      rw [if_neg Bool.false_ne_true] at qr ⊢
      have Sw := r4.st.wipe vs
      rw [wσ] at Sw
      exact ⟨B4, wipeD env2 vs, φ4, accD, accV, F, r, T3.trans T4, Sw, wen (σx := σ') r4.st r4.env, bD4, pD4, dD4, o4, nd, x4, j4, fr, qr, eo, by omega⟩
    | true =>
      rw [if_pos rfl] at qr ⊢
      cases q3 : nxE (fe env2) with
      | stk => rw [q3] at qr; cases qr
      | exc e => exact absurd q3 nxE_noexc
      | ok dx env3 =>
      have q3' := nxE_ok q3
      rw [q3, RE.bind_ok] at qr
      cases q4 : fLcGo b ft fe vs (ds.drop (i + 1)) (wipeD env3 vs) with
      | stk => rw [q4] at qr; cases qr
      | exc e => exact absurd q4 fLcGo_noexc
      | ok r2 envF =>
      rw [q4, RE.bind_ok] at qr
      have er : r = dx :: r2 := by cases qr; rfl
      have er2 : envF = envE := by cases qr; rfl
      subst er2
      refine he B4 H4 env2 σ' φ4 _ r4.st (fun dy env3' hy v5 B5 H5 φ5 F5 r5 => ?_) (fun e env' z => by rw [z] at q3'; cases q3') (fun z => by rw [z] at q3'; cases q3')
      rw [q3'] at hy; cases hy
      have T5 := r5.tr
      have dF4 : ∀ a ∈ F, ∃ o, H4 a = some o := o4.dom
      have pD5 : ∀ j, Dl ∉ φ5 j := T5.dj (F := [Dl]) (fun a ha => by rw [List.mem_singleton.mp ha]; exact ⟨_, dD4⟩) (fun a ha => by rw [List.mem_singleton.mp ha]; exact pD4) Dl (by simp)
      have bD5 : B5 Dl = none := T5.out (F := [Dl]) (fun a ha => by rw [List.mem_singleton.mp ha]; exact bD4) (fun a ha => by rw [List.mem_singleton.mp ha]; exact ⟨_, dD4⟩) (fun a ha => by rw [List.mem_singleton.mp ha]; exact pD4) Dl (by simp)
      have dD5 : H5 Dl = some (.lst accV) := T5.keep _ _ dD4 (fun j _ => pD4 j)
      have nF : Dl ∉ F := (List.nodup_cons.mp nd).1
      have n5 : Dl ∉ F5 := fun z => by
        rcases r5.fr _ z with q | ⟨j, _, q⟩
        · rw [q] at dD4; cases dD4
        · exact pD4 j q
      have o5 := T5.owns o4 j4
      have T15 := (T3.trans T4).trans T5
      have Sw := r5.st.wipe vs
      rw [wσ] at Sw
      refine ⟨accV, dD5, ?_, B5, wipeD env3 vs, φ5, accD ++ [dx], accV ++ [v5], F ++ F5, r2, ⟨T15.bb, fun a o h n => ?_, T15.nw, T15.same, T15.fr⟩, Sw.updO bD5 pD5, wen (σx := σ') r5.st (fun j hj => (r5.env j hj).trans (r4.env j hj)), bD5, pD5, upd_same, ?_, ?_, ?_, ?_, ?_, q4, by rw [eo, er, List.append_assoc]; rfl, by rw [List.length_append, List.length_singleton]; omega⟩
      · have e1 := ow.length
        have := cl.1
        omega
      · have : a ≠ Dl := fun z => by rw [z, hD] at h; cases h
        rw [upd_ne this]; exact T15.keep a o h n
      · refine Owns.append (Owns.mono (Ex.refl _) o5 (fun a ha o h => ?_)) (Owns.one (Own.mono (Ex.refl _) r5.ow (fun a ha o h => ?_)))
        · rw [upd_ne (fun z => nF (by rw [← z]; exact ha))]; exact h
        · rw [upd_ne (fun z => n5 (by rw [← z]; exact ha))]; exact h
      · exact List.nodup_cons.mpr ⟨fun z => (List.mem_append.mp z).elim nF n5, List.nodup_append.mpr ⟨(List.nodup_cons.mp nd).2, r5.nd, Tr.apart (μ := μ) (φ := φ4) (φ' := φ5) (B := B4) dF4 j4 r5.fr⟩⟩
      · intro a ha
        rcases List.mem_append.mp ha with ha | ha
        · exact T5.out x4 dF4 j4 a ha
        · exact r5.out a ha
      · intro a ha
        rcases List.mem_append.mp ha with ha | ha
        · exact T5.dj dF4 j4 a ha
        · exact r5.dj a ha
      · intro a ha
        rcases List.mem_append.mp ha with ha | ha
        · exact fr a ha
        · exact (T3.trans T4).back (r5.fr a ha)
  · have ei : i = ds.length := by omega
    subst ei
    rw [List.drop_length] at qr
    have e2 : r = [] ∧ envs = envE := by unfold fLcGo at qr; cases qr; exact ⟨rfl, rfl⟩
    have e3 : out = accD := by rw [eo, e2.1, List.append_nil]
    have e4 := e2.2
    subst e4
    have T02 : Tr μ φ B H B2 H2 φ2 := (Tr.of_gr g1).trans T2
    refine .inl ⟨Y.st _ B2 H2 lt2 (Nat.le_refl _), hok (.own out) (restD env envs vs) (by rw [E, q0]; rfl) (.ref Dl) B2 H2 φ2 (Dl :: F) ⟨T02, S.rest S2 T02 hv (vsOk_at cl.2), fun j hj => ?_, ⟨Dl, accV, F, rfl, by rw [e3]; exact ow, ⟨hDl, _, hDl⟩, rfl, fun z => nomatch z⟩, nd, fun a ha => ?_, fun a ha => ?_, fun a ha => ?_⟩⟩
    · have l1 : envs.length = env.length := by rw [S2.len, wipe_length, ← S.len]
      rw [restD_get, l1]
      by_cases z : j ∈ vs ∧ j < env.length
      · rw [if_pos z, List.getD_eq_getElem?_getD, List.getElem?_eq_getElem z.2]; rfl
      · rw [if_neg z, en2 j hj, wipeD_get, if_neg z]
    · rcases List.mem_cons.mp ha with rfl | ha
      · exact bD
      · exact out' a ha
    · rcases List.mem_cons.mp ha with rfl | ha
      · exact pD
      · exact dj' a ha
    · rcases List.mem_cons.mp ha with rfl | ha
      · exact .inl (none_back g1.hh hD)
      · exact (Tr.of_gr g1).back (fr a ha)
end
end DP


set_option Elab.async false
set_option linter.all false
set_option maxRecDepth 100000
set_option maxHeartbeats 4000000
namespace DP
open PySem L2 Evl

/-! ### statements -/
inductive Fl where
  | nx (env : Env)
  | rt (d : D) (env : Env)
  | bk (env : Env)
  | ct (env : Env)
  | exc (e : Exc) (env : Env)
  | stk
structure RsS (G : Gx) (rea chg : List Nat) (φ : Nat → List Addr) (B H : Hp) (env : Env) (σ : L2.St) (env' : Env) (σ' : L2.St) (B' H' : Hp) (φ' : Nat → List Addr) : Prop where
  tr : Tr chg φ B H B' H' φ'
  st : Sta G B' H' env' σ' φ'
  env : ∀ i, i ∉ chg → env'[i]? = env[i]?
  sig : ∀ i, i ∉ rea → σ'[i]? = σ[i]?
structure RsR (G : Gx) (rea chg : List Nat) (φ : Nat → List Addr) (B H : Hp) (env : Env) (σ : L2.St) (d : D) (env' : Env) (v : V) (σ' : L2.St) (B' H' : Hp) (φ' : Nat → List Addr) (F : List Addr) : Prop where
  rs : RsS G rea chg φ B H env σ env' σ' B' H' φ'
  ow : Own G B' H' d v F
  nd : F.Nodup
  out : ∀ a ∈ F, B' a = none
  dj : ∀ a ∈ F, ∀ i, a ∉ φ' i
  fr : ∀ a ∈ F, H a = none ∨ ∃ i ∈ chg, a ∈ φ i
structure RsX (G : Gx) (rea chg : List Nat) (φ : Nat → List Addr) (B H : Hp) (env : Env) (σ : L2.St) (e : Exc) (env' : Env) (cls : Value) (dx : Option Addr) (σ' : L2.St) (B' H' : Hp) (φ' : Nat → List Addr) : Prop where
  rs : RsS G rea chg φ B H env σ env' σ' B' H' φ'
  is : ExcIs G B' H' e cls dx
structure SimS (G : Gx) (W : WX) (rea chg : List Nat) (ts : TS) (f : Env → Fl) : Prop where
  run : ∀ B H env σ φ (D : Ends), Sta G B H env σ φ →
    (∀ env', f env = .nx env' → ∀ σ' B' H' φ', RsS G rea chg φ B H env σ env' σ' B' H' φ' → D.nx σ' H') →
    (∀ env', f env = .bk env' → ∀ σ' B' H' φ', RsS G rea chg φ B H env σ env' σ' B' H' φ' → D.bk σ' H') →
    (∀ env', f env = .ct env' → ∀ σ' B' H' φ', RsS G rea chg φ B H env σ env' σ' B' H' φ' → D.ct σ' H') →
    (∀ d env', f env = .rt d env' → ∀ v σ' B' H' φ' F, RsR G rea chg φ B H env σ d env' v σ' B' H' φ' F → D.rt v H') →
    (∀ e env', f env = .exc e env' → ∀ cls dx σ' B' H' φ', RsX G rea chg φ B H env σ e env' cls dx σ' B' H' φ' → W cls dx σ' H') →
    f env ≠ .stk → ts D σ H
section
variable {G : Gx} {W : WX} {rea chg : List Nat} {φ φ1 φ2 : Nat → List Addr} {B H B1 H1 B2 H2 : Hp} {env env1 env2 : Env} {σ σ1 σ2 : L2.St}
theorem RsS.refl (S : Sta G B H env σ φ) : RsS G rea chg φ B H env σ env σ B H φ := ⟨.refl S.ex, S, fun _ _ => rfl, fun _ _ => rfl⟩
theorem RsS.trans (a : RsS G rea chg φ B H env σ env1 σ1 B1 H1 φ1) (b : RsS G rea chg φ1 B1 H1 env1 σ1 env2 σ2 B2 H2 φ2) : RsS G rea chg φ B H env σ env2 σ2 B2 H2 φ2 :=
  ⟨a.tr.trans b.tr, b.st, fun i hi => (b.env i hi).trans (a.env i hi), fun i hi => (b.sig i hi).trans (a.sig i hi)⟩
theorem RsR.pre {d : D} {v : V} {F : List Addr} (a : RsS G rea chg φ B H env σ env1 σ1 B1 H1 φ1) (b : RsR G rea chg φ1 B1 H1 env1 σ1 d env2 v σ2 B2 H2 φ2 F) : RsR G rea chg φ B H env σ d env2 v σ2 B2 H2 φ2 F :=
  ⟨a.trans b.rs, b.ow, b.nd, b.out, b.dj, fun c hc => a.tr.back (b.fr c hc)⟩
theorem RsX.pre {e : Exc} {cls : Value} {dx : Option Addr} (a : RsS G rea chg φ B H env σ env1 σ1 B1 H1 φ1) (b : RsX G rea chg φ1 B1 H1 env1 σ1 e env2 cls dx σ2 B2 H2 φ2) : RsX G rea chg φ B H env σ e env2 cls dx σ2 B2 H2 φ2 :=
  ⟨a.trans b.rs, b.is⟩
theorem RsF.rsS {d : D} {v : V} {F : List Addr} (r : RsF G chg φ B H env σ d env1 v B1 H1 φ1 F) : RsS G rea chg φ B H env σ env1 σ B1 H1 φ1 := ⟨r.tr, r.st, r.env, fun _ _ => rfl⟩
theorem RsFT.rsS (r : RsFT G chg φ B H env σ env1 B1 H1 φ1) : RsS G rea chg φ B H env σ env1 σ B1 H1 φ1 := ⟨r.tr, r.st, r.env, fun _ _ => rfl⟩
theorem RxF.rsX {e : Exc} {cls : Value} {dx : Option Addr} (r : RxF G chg φ B H env σ e env1 cls dx B1 H1 φ1) : RsX G rea chg φ B H env σ e env1 cls dx σ B1 H1 φ1 := ⟨⟨r.tr, r.st, r.env, fun _ _ => rfl⟩, r.is⟩
theorem RsS.mono {rea' chg' : List Nat} (a : RsS G rea chg φ B H env σ env1 σ1 B1 H1 φ1) (h : ∀ i ∈ rea, i ∈ rea') (h' : ∀ i ∈ chg, i ∈ chg') : RsS G rea' chg' φ B H env σ env1 σ1 B1 H1 φ1 :=
  ⟨a.tr.mono h', a.st, fun i hi => a.env i fun z => hi (h' i z), fun i hi => a.sig i fun z => hi (h i z)⟩
end
section
variable {G : Gx} {W : WX} {rea chg : List Nat} {t u : TS} {f g : Env → Fl} {te : TE} {fe : Ef D} {tt : TT} {ft : Ef Bool}
theorem SimS.mono {rea' chg' : List Nat} (h : SimS G W rea chg t f) (h1 : ∀ i ∈ rea, i ∈ rea') (h2 : ∀ i ∈ chg, i ∈ chg') : SimS G W rea' chg' t f := ⟨fun B H env σ φ D S hn hb hc hr hx hst =>
  h.run B H env σ φ D S (fun e z σ' B' H' φ' r => hn e z σ' B' H' φ' (r.mono h1 h2)) (fun e z σ' B' H' φ' r => hb e z σ' B' H' φ' (r.mono h1 h2)) (fun e z σ' B' H' φ' r => hc e z σ' B' H' φ' (r.mono h1 h2))
    (fun d e z v σ' B' H' φ' F r => hr d e z v σ' B' H' φ' F ⟨r.rs.mono h1 h2, r.ow, r.nd, r.out, r.dj, fun a ha => (r.fr a ha).imp id fun ⟨i, hi, y⟩ => ⟨i, h2 i hi, y⟩⟩)
    (fun x e z cls dx σ' B' H' φ' r => hx x e z cls dx σ' B' H' φ' ⟨r.rs.mono h1 h2, r.is⟩) hst⟩
def sPass : Env → Fl := fun env => .nx env
theorem simS_pass : SimS G W rea chg tNext sPass := ⟨fun B H env σ φ D S hn _ _ _ _ _ => hn env rfl σ B H φ (.refl S)⟩
def sBreak : Env → Fl := fun env => .bk env
theorem simS_break : SimS G W rea chg tBreak sBreak := ⟨fun B H env σ φ D S _ hb _ _ _ _ => hb env rfl σ B H φ (.refl S)⟩
def sCont : Env → Fl := fun env => .ct env
theorem simS_cont : SimS G W rea chg tCont sCont := ⟨fun B H env σ φ D S _ _ hc _ _ _ => hc env rfl σ B H φ (.refl S)⟩
def Fl.seq (x : Fl) (g : Env → Fl) : Fl := match x with
  | .nx env => g env
  | x => x
@[simp] theorem Fl.seq_nx (env : Env) (g : Env → Fl) : (Fl.nx env).seq g = g env := rfl
@[simp] theorem Fl.seq_rt (d : D) (env : Env) (g : Env → Fl) : (Fl.rt d env).seq g = .rt d env := rfl
@[simp] theorem Fl.seq_bk (env : Env) (g : Env → Fl) : (Fl.bk env).seq g = .bk env := rfl
@[simp] theorem Fl.seq_ct (env : Env) (g : Env → Fl) : (Fl.ct env).seq g = .ct env := rfl
@[simp] theorem Fl.seq_exc (e : Exc) (env : Env) (g : Env → Fl) : (Fl.exc e env).seq g = .exc e env := rfl
@[simp] theorem Fl.seq_stk (g : Env → Fl) : Fl.stk.seq g = .stk := rfl
def sSeq (f g : Env → Fl) : Env → Fl := fun env => (f env).seq g
theorem simS_seq (h : SimS G W rea chg t f) (h' : SimS G W rea chg u g) : SimS G W rea chg (tSeq t u) (sSeq f g) := ⟨fun B H env σ φ D S hn hb hc hr hx hst => by
  show t { D with nx := u D } σ H
  refine h.run B H env σ φ _ S (fun env1 e1 σ1 B1 H1 φ1 r1 => ?_) (fun env1 e1 σ1 B1 H1 φ1 r1 => hb env1 (by show (f env).seq g = _; rw [e1]; rfl) σ1 B1 H1 φ1 r1) (fun env1 e1 σ1 B1 H1 φ1 r1 => hc env1 (by show (f env).seq g = _; rw [e1]; rfl) σ1 B1 H1 φ1 r1) (fun d env1 e1 v σ1 B1 H1 φ1 F r1 => hr d env1 (by show (f env).seq g = _; rw [e1]; rfl) v σ1 B1 H1 φ1 F r1) (fun e env1 e1 cls dx σ1 B1 H1 φ1 r1 => hx e env1 (by show (f env).seq g = _; rw [e1]; rfl) cls dx σ1 B1 H1 φ1 r1) (fun z => hst (by show (f env).seq g = _; rw [z]; rfl))
  have E : sSeq f g env = g env1 := by show (f env).seq g = _; rw [e1]; rfl
  exact h'.run B1 H1 env1 σ1 φ1 D r1.st (fun env2 e2 σ2 B2 H2 φ2 r2 => hn env2 (E.trans e2) σ2 B2 H2 φ2 (r1.trans r2)) (fun env2 e2 σ2 B2 H2 φ2 r2 => hb env2 (E.trans e2) σ2 B2 H2 φ2 (r1.trans r2)) (fun env2 e2 σ2 B2 H2 φ2 r2 => hc env2 (E.trans e2) σ2 B2 H2 φ2 (r1.trans r2))
    (fun d env2 e2 v σ2 B2 H2 φ2 F r2 => hr d env2 (E.trans e2) v σ2 B2 H2 φ2 F (RsR.pre r1 r2)) (fun e env2 e2 cls dx σ2 B2 H2 φ2 r2 => hx e env2 (E.trans e2) cls dx σ2 B2 H2 φ2 (RsX.pre r1 r2)) (fun z => hst (E.trans z))⟩
/-- a value's end in a statement -/
def REs (x : RE D) (k : D → Env → Fl) : Fl := match x with
  | .ok d env => k d env
  | .exc e env => .exc e env
  | .stk => .stk
@[simp] theorem REs_ok (d : D) (env : Env) (k : D → Env → Fl) : REs (.ok d env) k = k d env := rfl
@[simp] theorem REs_exc (e : Exc) (env : Env) (k : D → Env → Fl) : REs (.exc e env) k = .exc e env := rfl
@[simp] theorem REs_stk (k : D → Env → Fl) : REs .stk k = .stk := rfl
/-- return e; return -/
def sRet (f : Ef D) : Env → Fl := fun env => REs (f env) .rt
theorem simS_ret (h : SimF G W chg te fe) : SimS G W rea chg (tRet te) (sRet fe) := ⟨fun B H env σ φ D S hn hb hc hr hx hst =>
  h B H env σ φ _ S (fun d env1 e1 v B1 H1 φ1 F r => hr d env1 (by show REs (fe env) _ = _; rw [e1]; rfl) v σ B1 H1 φ1 F ⟨r.rsS, r.ow, r.nd, r.out, r.dj, r.fr⟩) (fun e env1 e1 cls dx B1 H1 φ1 r => hx e env1 (by show REs (fe env) _ = _; rw [e1]; rfl) cls dx σ B1 H1 φ1 r.rsX) (fun z => hst (by show REs (fe env) _ = _; rw [z]; rfl))⟩
def sRetN : Env → Fl := fun env => .rt .non env
theorem simS_retN : SimS G W rea chg tRetN sRetN := ⟨fun B H env σ φ D S hn hb hc hr hx hst => hr .non env rfl .non σ B H φ [] ⟨.refl S, ⟨rfl, rfl⟩, .nil, fun _ h => (nomatch h), fun _ h => (nomatch h), fun _ h => (nomatch h)⟩⟩
/-- e as a statement -/
def sDrop (f : Ef D) : Env → Fl := fun env => REs (f env) fun _ env => .nx env
theorem simS_drop (h : SimF G W chg te fe) : SimS G W rea chg (tDrop te) (sDrop fe) := ⟨fun B H env σ φ D S hn hb hc hr hx hst =>
  h B H env σ φ _ S (fun d env1 e1 v B1 H1 φ1 F r => hn env1 (by show REs (fe env) _ = _; rw [e1]; rfl) σ B1 H1 φ1 r.rsS) (fun e env1 e1 cls dx B1 H1 φ1 r => hx e env1 (by show REs (fe env) _ = _; rw [e1]; rfl) cls dx σ B1 H1 φ1 r.rsX) (fun z => hst (by show REs (fe env) _ = _; rw [z]; rfl))⟩
/-- x = e -/
def sSet (i : Nat) (f : Ef D) : Env → Fl := fun env => REs (f env) fun d env => .nx (env.set i d)
theorem Tr.set {φ : Nat → List Addr} {B H : Hp} {i : Nat} {F : List Addr} (hi : i ∈ chg) (fr : ∀ a ∈ F, H a ≠ none → ∀ j, a ∉ φ j → False) : True := trivial
theorem simS_set {i : Nat} (hr : i ∈ rea) (hc : i ∈ chg) (h : SimF G W chg te fe) : SimS G W rea chg (tAsg te (gName i)) (sSet i fe) := ⟨fun B H env σ φ D S hn hb hc' hrt hx hst => by
  refine h B H env σ φ _ S (fun d env1 e1 v B1 H1 φ1 F r => ?_) (fun e env1 e1 cls dx B1 H1 φ1 r => hx e env1 (by show REs (fe env) _ = _; rw [e1]; rfl) cls dx σ B1 H1 φ1 r.rsX) (fun z => hst (by show REs (fe env) _ = _; rw [z]; rfl))
  refine hn (env1.set i d) (by show REs (fe env) _ = _; rw [e1]; rfl) (σ.set i (some v)) B1 H1 (fun j => if j = i then F else φ1 j) ⟨⟨r.tr.bb, r.tr.keep, r.tr.nw, fun j hj a ha => ?_, fun j hj a ha => ?_⟩, r.st.set r.ow r.nd r.out (fun j _ a ha => r.dj a ha j), fun j hj => ?_, fun j hj => ?_⟩
  · rw [if_neg (fun z => hj (by rw [z]; exact hc))] at ha
    exact r.tr.same j hj a ha
  · have ha' : a ∈ (if j = i then F else φ1 j) := ha
    split at ha'
    · exact r.fr a ha'
    · exact r.tr.fr j hj a ha'
  · rw [List.getElem?_set_ne (fun z => hj (by rw [← z]; exact hc))]; exact r.env j hj
  · exact List.getElem?_set_ne (fun z => hj (by rw [← z]; exact hr))⟩
/-- targets of an assignment, owned parts and all -/
def SimGO (G : Gx) (sl : List Nat) (g : TG) (f : D → Env → R Env) : Prop := ∀ B H env σ φ d v F Q, Sta G B H env σ φ → Own G B H d v F → F.Nodup → (∀ a ∈ F, B a = none) → (∀ a ∈ F, ∀ i, a ∉ φ i) →
  (∀ env', f d env = .ok env' → ∀ σ' φ', Sta G B H env' σ' φ' → (∀ j, ∀ a ∈ φ' j, a ∈ φ j ∨ (j ∈ sl ∧ a ∈ F)) → (∀ j, j ∉ sl → σ'[j]? = σ[j]? ∧ env'[j]? = env[j]?) → Q σ' H) → (∀ e, f d env ≠ .exc e) → f d env ≠ .stk → g v σ H Q
def SimGsO (G : Gx) (sl : List Nat) (g : TGs) (f : List D → Env → R Env) : Prop := ∀ B H env σ φ ds vs F Q, Sta G B H env σ φ → Owns G B H ds vs F → F.Nodup → (∀ a ∈ F, B a = none) → (∀ a ∈ F, ∀ i, a ∉ φ i) →
  (∀ env', f ds env = .ok env' → ∀ σ' φ', Sta G B H env' σ' φ' → (∀ j, ∀ a ∈ φ' j, a ∈ φ j ∨ (j ∈ sl ∧ a ∈ F)) → (∀ j, j ∉ sl → σ'[j]? = σ[j]? ∧ env'[j]? = env[j]?) → Q σ' H) → (∀ e, f ds env ≠ .exc e) → f ds env ≠ .stk → g vs σ H Q
theorem simO_name {i : Nat} : SimGO G [i] (gName i) (bName i) := fun B H env σ φ d v F Q S o nd out dj hok hex hst =>
  hok _ rfl _ _ (S.set o nd out (fun j _ a ha => dj a ha j)) (fun j a ha => by
    have ha' : a ∈ (if j = i then F else φ j) := ha
    split at ha'
    · rename_i q; exact .inr ⟨by simp [q], ha'⟩
    · exact .inl ha') (fun j hj => by
    have : i ≠ j := fun z => hj (by simp [z])
    exact ⟨List.getElem?_set_ne this, List.getElem?_set_ne this⟩)
theorem simsO_nil : SimGsO G [] gNil bNil := fun B H env σ φ ds vs F Q S o nd out dj hok hex hst => by
  cases ds with
  | nil =>
    obtain ⟨rfl, _⟩ := o
    exact ⟨rfl, hok env rfl σ φ S (fun _ _ h => .inl h) (fun _ _ => ⟨rfl, rfl⟩)⟩
  | cons d ds => exact absurd rfl hst
theorem simsO_cons {sl sl2 : List Nat} {g : TG} {gs : TGs} {b : D → Env → R Env} {bs : List D → Env → R Env} (h : SimGO G sl g b) (h' : SimGsO G sl2 gs bs) : SimGsO G (sl ++ sl2) (gCons g gs) (bCons b bs) := fun B H env σ φ ds vs F Q S o nd out dj hok hex hst => by
  cases ds with
  | nil => exact absurd rfl hst
  | cons d ds =>
    obtain ⟨x, xs', F1, F2, rfl, rfl, e3, e4⟩ := o
    obtain ⟨n1, n2, n3⟩ := List.nodup_append.mp nd
    have E : bCons b bs (d :: ds) env = (b d env >>= bs ds) := rfl
    refine ⟨x, xs', rfl, ?_⟩
    refine h B H env σ φ d x F1 _ S e3 n1 (fun a ha => out a (List.mem_append_left _ ha)) (fun a ha => dj a (List.mem_append_left _ ha)) (fun env1 he1 σ1 φ1 S1 p1 k1 => ?_) (fun e z => hex e (by rw [E, z]; rfl)) (bind_stk hst)
    have E1 : bCons b bs (d :: ds) env = bs ds env1 := by rw [E, he1]; rfl
    refine h' B H env1 σ1 φ1 ds xs' F2 Q S1 e4 n2 (fun a ha => out a (List.mem_append_right _ ha)) (fun a ha j hj => ?_) (fun env2 he2 σ2 φ2 S2 p2 k2 => ?_) (fun e z => hex e (E1.trans z)) (fun z => hst (E1.trans z))
    · rcases p1 j a hj with z | ⟨_, z⟩
      · exact dj a (List.mem_append_right _ ha) j z
      · exact n3 a z a ha rfl
    refine hok env2 (E1.trans he2) σ2 φ2 S2 (fun j a ha => ?_) (fun j hj => ?_)
    · rcases p2 j a ha with q | ⟨q, q'⟩
      · rcases p1 j a q with z | ⟨z, z'⟩
        · exact .inl z
        · exact .inr ⟨List.mem_append_left _ z, List.mem_append_left _ z'⟩
      · exact .inr ⟨List.mem_append_right _ q, List.mem_append_right _ q'⟩
    · have a1 := k1 j (fun z => hj (List.mem_append_left _ z))
      have a2 := k2 j (fun z => hj (List.mem_append_right _ z))
      exact ⟨a2.1.trans a1.1, a2.2.trans a1.2⟩
theorem simO_gtup {sl : List Nat} {gs : TGs} {bs : List D → Env → R Env} {n : Nat} (h : SimGsO G sl gs bs) : SimGO G sl (gTup G.K n gs) (bTup n bs) := fun B H env σ φ d v F Q S o nd out dj hok hex hst => by
  have no : ∀ d, (∀ l, d ≠ .con false .tup l) → bTup n bs d env = .stk := fun d hd => by
    unfold bTup; split
    · rename_i l; exact absurd rfl (hd l)
    · rfl
  by_cases q : ∃ l, d = .con false .tup l
  · obtain ⟨l, rfl⟩ := q
    obtain ⟨a, xs, F', rfl, q2, q3, q4⟩ := o.cell S.ex
    have z : F = F' := q4
    subst z
    have E : bTup n bs (.con false .tup l) env = if l.length = n then bs l env else .stk := rfl
    by_cases c : l.length = n
    · rw [if_pos c] at E
      exact ⟨a, xs, rfl, SqT.of q3, by rw [← q2.length]; exact c, h B H env σ φ l xs F Q S q2 nd out dj (fun env' he' => hok env' (E.trans he')) (fun e z => hex e (E.trans z)) (fun z => hst (E.trans z))⟩
    · rw [if_neg c] at E; exact absurd E hst
  · exact absurd (no d fun l hl => q ⟨l, hl⟩) hst
/-- a, b = e -/
def Rs1 (x : R Env) : Fl := match x with
  | .ok env => .nx env
  | _ => .stk
@[simp] theorem Rs1_ok (env : Env) : Rs1 (.ok env) = .nx env := rfl
def sAsg (b : D → Env → R Env) (f : Ef D) : Env → Fl := fun env => REs (f env) fun d env => Rs1 (b d env)
theorem simS_asg {g : TG} {b : D → Env → R Env} {sl : List Nat} (hs : ∀ j ∈ sl, j ∈ rea) (hc : ∀ j ∈ sl, j ∈ chg) (h : SimF G W chg te fe) (hg : SimGO G sl g b) : SimS G W rea chg (tAsg te g) (sAsg b fe) := ⟨fun B H env σ φ D S hn hb hc' hrt hx hst => by
  refine h B H env σ φ _ S (fun d env1 e1 v B1 H1 φ1 F r => ?_) (fun e env1 e1 cls dx B1 H1 φ1 r => hx e env1 (by show REs (fe env) _ = _; rw [e1]; rfl) cls dx σ B1 H1 φ1 r.rsX) (fun z => hst (by show REs (fe env) _ = _; rw [z]; rfl))
  have E : sAsg b fe env = Rs1 (b d env1) := by show REs (fe env) _ = _; rw [e1]; rfl
  refine hg B1 H1 env1 σ φ1 d v F _ r.st r.ow r.nd r.out r.dj (fun env2 e2 σ2 φ2 S2 p2 k2 => ?_) (fun e z => hst (by rw [E, z]; rfl)) (fun z => hst (by rw [E, z]; rfl))
  refine hn env2 (by rw [E, e2]; rfl) σ2 B1 H1 φ2 ⟨⟨r.tr.bb, r.tr.keep, r.tr.nw, fun j hj a ha => ?_, fun j hj a ha => ?_⟩, S2, fun j hj => ?_, fun j hj => ?_⟩
  · rcases p2 j a ha with z | ⟨z, _⟩
    · exact r.tr.same j hj a z
    · exact absurd (hc j z) hj
  · rcases p2 j a ha with z | ⟨_, z⟩
    · exact r.tr.fr j hj a z
    · exact r.fr a z
  · exact (k2 j (fun z => hj (hc j z))).2.trans (r.env j hj)
  · exact (k2 j (fun z => hj (hs j z))).1⟩
/-- forgetting -/
def sForget (f : Env → Fl) (vs : List Nat) : Env → Fl := fun env => match f env with
  | .nx env => .nx (wipeD env vs)
  | .ct env => .ct (wipeD env vs)
  | x => x
theorem Sta.wipeE {B H : Hp} {env : Env} {σ : L2.St} {φ : Nat → List Addr} (S : Sta G B H env σ φ) (vs : List Nat) : Sta G B H (wipeD env vs) σ φ where
  ex := S.ex
  len := by rw [wipeD_len]; exact S.len
  slot := fun i d h => by
    rw [wipeD_get] at h
    split at h
    · cases h; exact .inl rfl
    · exact S.slot i d h
  nd := S.nd
  dj := S.dj
  out := S.out
  dom := S.dom
theorem simS_forget {vs : List Nat} (hv : ∀ i ∈ vs, i ∈ chg) (h : SimS G W rea chg t f) : SimS G W rea chg t (sForget f vs) := ⟨fun B H env σ φ D S hn hb hc hr hx hst => by
  have fx : ∀ {env1 : Env} {σ1 : L2.St} {B1 H1 : Hp} {φ1 : Nat → List Addr}, RsS G rea chg φ B H env σ env1 σ1 B1 H1 φ1 → RsS G rea chg φ B H env σ (wipeD env1 vs) σ1 B1 H1 φ1 := fun r => ⟨r.tr, r.st.wipeE vs, fun i hi => by
    rw [wipeD_get, if_neg (fun z => hi (hv i z.1))]; exact r.env i hi, r.sig⟩
  refine h.run B H env σ φ D S (fun env1 e1 σ1 B1 H1 φ1 r1 => hn (wipeD env1 vs) (by show (match f env with | .nx env => Fl.nx (wipeD env vs) | .ct env => Fl.ct (wipeD env vs) | x => x) = _; rw [e1]) σ1 B1 H1 φ1 (fx r1)) (fun env1 e1 σ1 B1 H1 φ1 r1 => hb env1 (by show (match f env with | .nx env => Fl.nx (wipeD env vs) | .ct env => Fl.ct (wipeD env vs) | x => x) = _; rw [e1]) σ1 B1 H1 φ1 r1) (fun env1 e1 σ1 B1 H1 φ1 r1 => hc (wipeD env1 vs) (by show (match f env with | .nx env => Fl.nx (wipeD env vs) | .ct env => Fl.ct (wipeD env vs) | x => x) = _; rw [e1]) σ1 B1 H1 φ1 (fx r1))
    (fun d env1 e1 v σ1 B1 H1 φ1 F r1 => hr d env1 (by show (match f env with | .nx env => Fl.nx (wipeD env vs) | .ct env => Fl.ct (wipeD env vs) | x => x) = _; rw [e1]) v σ1 B1 H1 φ1 F r1) (fun e env1 e1 cls dx σ1 B1 H1 φ1 r1 => hx e env1 (by show (match f env with | .nx env => Fl.nx (wipeD env vs) | .ct env => Fl.ct (wipeD env vs) | x => x) = _; rw [e1]) cls dx σ1 B1 H1 φ1 r1) (fun z => hst (by show (match f env with | .nx env => Fl.nx (wipeD env vs) | .ct env => Fl.ct (wipeD env vs) | x => x) = _; rw [z]))⟩
/-- if -/
def REb (x : RE Bool) (k : Bool → Env → Fl) : Fl := match x with
  | .ok b env => k b env
  | .exc e env => .exc e env
  | .stk => .stk
@[simp] theorem REb_ok (b : Bool) (env : Env) (k : Bool → Env → Fl) : REb (.ok b env) k = k b env := rfl
@[simp] theorem REb_exc (e : Exc) (env : Env) (k : Bool → Env → Fl) : REb (.exc e env) k = .exc e env := rfl
@[simp] theorem REb_stk (k : Bool → Env → Fl) : REb .stk k = .stk := rfl
def sIf (c : Ef Bool) (f g : Env → Fl) : Env → Fl := fun env => REb (c env) fun b env => if b = true then f env else g env
theorem simS_if (h : SimFT G W chg tt ft) (h1 : SimS G W rea chg t f) (h2 : SimS G W rea chg u g) : SimS G W rea chg (tIfS tt t u) (sIf ft f g) := ⟨fun B H env σ φ D S hn hb hc hr hx hst => by
  refine h B H env σ φ _ S (fun b env1 e1 B1 H1 φ1 r => ?_) (fun e env1 e1 cls dx B1 H1 φ1 r => hx e env1 (by show REb (ft env) _ = _; rw [e1]; rfl) cls dx σ B1 H1 φ1 r.rsX) (fun z => hst (by show REb (ft env) _ = _; rw [z]; rfl))
  have E : sIf ft f g env = if b = true then f env1 else g env1 := by show REb (ft env) _ = _; rw [e1]; rfl
  have r1 : RsS G rea chg φ B H env σ env1 σ B1 H1 φ1 := r.rsS
  have go : ∀ {t' : TS} {f' : Env → Fl}, SimS G W rea chg t' f' → sIf ft f g env = f' env1 → t' D σ H1 := fun {t' f'} h' E' =>
    h'.run B1 H1 env1 σ φ1 D r.st (fun env2 e2 σ2 B2 H2 φ2 r2 => hn env2 (E'.trans e2) σ2 B2 H2 φ2 (r1.trans r2)) (fun env2 e2 σ2 B2 H2 φ2 r2 => hb env2 (E'.trans e2) σ2 B2 H2 φ2 (r1.trans r2)) (fun env2 e2 σ2 B2 H2 φ2 r2 => hc env2 (E'.trans e2) σ2 B2 H2 φ2 (r1.trans r2))
      (fun d env2 e2 v σ2 B2 H2 φ2 F r2 => hr d env2 (E'.trans e2) v σ2 B2 H2 φ2 F (RsR.pre r1 r2)) (fun e env2 e2 cls dx σ2 B2 H2 φ2 r2 => hx e env2 (E'.trans e2) cls dx σ2 B2 H2 φ2 (RsX.pre r1 r2)) (fun z => hst (E'.trans z))
  cases b with
  | true => exact go h1 E
  | false => exact go h2 E⟩
/-- for -/
def forGo (b : D → Env → R Env) (f : Env → Fl) : List D → Env → Fl
  | [], env => .nx env
  | d :: ds, env => match b d env with
    | .ok env1 => match f env1 with
      | .nx env2 => forGo b f ds env2
      | .ct env2 => forGo b f ds env2
      | .bk env2 => .nx env2
      | x => x
    | _ => .stk
def sFor (src : Env → R (List D)) (b : D → Env → R Env) (f : Env → Fl) : Env → Fl := fun env => match src env with
  | .ok ds => forGo b f ds env
  | .exc e => .exc e env
  | .stk => .stk
theorem simS_for {wi : TI} {fi : Env → R (List D)} {m1 : Option Nat} {g : TG} {b : D → Env → R Env} {sl : List Nat} (hi : SimI G W m1 wi fi) (hm : ∀ r, m1 = some r → r ∉ chg) (hg : SimG G sl g b) (hs : ∀ j ∈ sl, j ∈ rea) (hcs : ∀ j ∈ sl, j ∈ chg) (h : SimS G W rea chg t f) : SimS G W rea chg (tFor wi g t) (sFor fi b f) := ⟨fun B H env σ φ D S hn hb hc hr hx hst => by
  refine hi B H env σ φ _ S (fun ds hd J B1 H1 Fs g1 Y fs => ?_) (fun e he cls dx B' H' rx => hx e env (by show (match fi env with | .ok ds => forGo b f ds env | .exc e => Fl.exc e env | .stk => Fl.stk) = _; rw [he]) cls dx σ B' H' φ (rx.rxF S).rsX) (fun z => hst (by show (match fi env with | .ok ds => forGo b f ds env | .exc e => Fl.exc e env | .stk => Fl.stk) = _; rw [z]))
  have E : sFor fi b f env = forGo b f ds env := by show (match fi env with | .ok ds => forGo b f ds env | .exc e => Fl.exc e env | .stk => Fl.stk) = _; rw [hd]
  have S1 := S.grow g1
  have fsφ : ∀ a ∈ Fs, ∀ i ∈ chg, a ∉ φ i := fun a ha i hi hc => by
    rcases (fs a ha).2 with z | ⟨r, hr, z⟩
    · obtain ⟨o, q⟩ := S.dom i a hc; rw [z] at q; cases q
    · exact S.dj r i (fun e => hm r hr (e ▸ hi)) a z hc
  have ltOf : ∀ {B' H' : Hp} {φ' : Nat → List Addr}, Tr chg φ B1 H1 B' H' φ' → Ex B' H' → Lt Fs B1 H1 B' H' := fun T e => ⟨T.bb, e, fun a ha o q => T.keep a o q fun i hi => fsφ a ha i hi⟩
  have r01 : RsS G rea chg φ B H env σ env σ B1 H1 φ := ⟨.of_gr g1, S1, fun _ _ => rfl, fun _ _ => rfl⟩
  refine ⟨fun i mm σ' H' => mm = ds.length - i ∧ i ≤ ds.length ∧ ∃ B' env' φ', RsS G rea chg φ B1 H1 env σ env' σ' B' H' φ' ∧ forGo b f (ds.drop i) env' = sFor fi b f env, ⟨ds.length, by simp, Nat.zero_le _, B1, env, φ, .refl S1, by rw [List.drop_zero]; exact E.symm⟩, ?_⟩
  rintro i mm σ2 H2 ⟨rfl, hi2, B2, env2, φ2, r2, qr⟩
  have lt2 : Lt Fs B1 H1 B2 H2 := ltOf r2.tr r2.st.ex
  by_cases hlt : i < ds.length
  · refine .inr ⟨Y.go i B2 H2 lt2 hlt, fun σ' H' => ∃ B' env' φ', RsS G rea chg φ B1 H1 env σ env' σ' B' H' φ' ∧ forGo b f (ds.drop (i + 1)) env' = sFor fi b f env, fun σ' H' w => ⟨ds.length - (i + 1), by omega, rfl, hlt, w⟩, fun x H3 y => ?_⟩
    obtain ⟨d, B3, hdi, g3, od⟩ := Y.yl i x B2 H2 H3 lt2 hlt y
    have ed : ds.drop i = d :: ds.drop (i + 1) := by
      obtain ⟨h1, h2⟩ := List.getElem?_eq_some_iff.mp hdi
      rw [← h2]; exact List.drop_eq_getElem_cons h1
    rw [ed] at qr
    unfold forGo at qr
    have S3 := r2.st.grow g3
    cases q1 : b d env2 with
    | stk => rw [q1] at qr; exact absurd qr.symm hst
    | exc e => rw [q1] at qr; exact absurd qr.symm hst
    | ok env3 =>
    rw [q1] at qr
    dsimp only at qr
    refine hg B3 H3 env2 σ2 φ2 d x _ S3 od (fun env' he' σ3 φ3 S' p' k' l' => ?_) (fun e z => by rw [z] at q1; cases q1) (fun z => by rw [z] at q1; cases q1)
    rw [q1] at he'; cases he'
    have sub : ∀ j, ∀ a ∈ φ3 j, a ∈ φ2 j := fun j a ha => by
      rcases p' j with z | ⟨z, _⟩
      · rw [z] at ha; exact ha
      · rw [z] at ha; cases ha
    have r3 : RsS G rea chg φ B1 H1 env σ env3 σ3 B3 H3 φ3 := ⟨r2.tr.trans ((Tr.of_gr g3).trans ⟨Ex.refl _, fun a o h _ => h, fun a o h1 h2 => by (rw [h1] at h2; cases h2), fun j _ => sub j, fun j hj a ha => .inr ⟨j, hj, sub j a ha⟩⟩), S',
      fun j hj => (k' j (fun z => hj (hcs j z))).2.trans (r2.env j hj), fun j hj => (k' j (fun z => hj (hs j z))).1.trans (r2.sig j hj)⟩
    refine h.run B3 H3 env3 σ3 φ3 _ S' (fun env4 e4 σ4 B4 H4 φ4 r4 => ?_) (fun env4 e4 σ4 B4 H4 φ4 r4 => ?_) (fun env4 e4 σ4 B4 H4 φ4 r4 => ?_) (fun d4 env4 e4 v4 σ4 B4 H4 φ4 F4 r4 => ?_) (fun e env4 e4 cls dx σ4 B4 H4 φ4 r4 => ?_) (fun z => hst (by rw [z] at qr; exact qr.symm))
    · rw [e4] at qr; exact ⟨B4, env4, φ4, r3.trans r4, qr⟩
    · rw [e4] at qr; exact hn env4 qr.symm σ4 B4 H4 φ4 (r01.trans (r3.trans r4))
    · rw [e4] at qr; exact ⟨B4, env4, φ4, r3.trans r4, qr⟩
    · rw [e4] at qr; exact hr d4 env4 qr.symm v4 σ4 B4 H4 φ4 F4 (RsR.pre r01 (RsR.pre r3 r4))
    · rw [e4] at qr; exact hx e env4 qr.symm cls dx σ4 B4 H4 φ4 (RsX.pre r01 (RsX.pre r3 r4))
  · have ei : i = ds.length := by omega
    subst ei
    rw [List.drop_length] at qr
    unfold forGo at qr
    exact .inl ⟨Y.st _ B2 H2 lt2 (Nat.le_refl _), hn env2 qr.symm σ2 B2 H2 φ2 (r01.trans r2)⟩⟩
/-- while, at most n turns -/
def whGo (c : Ef Bool) (f : Env → Fl) : Nat → Env → Fl
  | 0, _ => .stk
  | n + 1, env => REb (c env) fun b env1 => if b = true then (match f env1 with
      | .nx env2 => whGo c f n env2
      | .ct env2 => whGo c f n env2
      | .bk env2 => .nx env2
      | x => x) else .nx env1
theorem simS_while {n : Nat} (hc' : SimFT G W chg tt ft) (h : SimS G W rea chg t f) : SimS G W rea chg (tWhile tt t) (whGo ft f n) := ⟨fun B H env σ φ D S hn hb hc hr hx hst => by
  generalize eR : whGo ft f n env = R0 at hn hb hc hr hx hst
  refine ⟨fun m σ' H' => ∃ B' env' φ', RsS G rea chg φ B H env σ env' σ' B' H' φ' ∧ whGo ft f m env' = R0, ⟨n, B, env, φ, .refl S, eR⟩, ?_⟩
  rintro m σ1 H1 ⟨B1, env1, φ1, r1, q1⟩
  cases m with
  | zero => exact absurd q1.symm hst
  | succ m =>
    unfold whGo at q1
    refine hc' B1 H1 env1 σ1 φ1 _ r1.st (fun b env2 e2 B2 H2 φ2 r2 => ?_) (fun e env2 e2 cls dx B2 H2 φ2 r2 => hx e env2 (by rw [e2] at q1; exact q1.symm) cls dx σ1 B2 H2 φ2 (RsX.pre r1 r2.rsX)) (fun z => hst (by rw [z] at q1; exact q1.symm))
    rw [e2, REb_ok] at q1
    have r12 : RsS G rea chg φ B H env σ env2 σ1 B2 H2 φ2 := r1.trans r2.rsS
    cases b with
    | false =>
      rw [if_neg Bool.false_ne_true] at q1 ⊢
      exact hn env2 q1.symm σ1 B2 H2 φ2 r12
    | true =>
      rw [if_pos rfl] at q1 ⊢
      refine ⟨fun σ' H' => ∃ B' env' φ', RsS G rea chg φ B H env σ env' σ' B' H' φ' ∧ whGo ft f m env' = R0, fun σ' H' w => ⟨m, Nat.lt_succ_self m, w⟩, ?_⟩
      refine h.run B2 H2 env2 σ1 φ2 _ r12.st (fun env4 e4 σ4 B4 H4 φ4 r4 => ?_) (fun env4 e4 σ4 B4 H4 φ4 r4 => ?_) (fun env4 e4 σ4 B4 H4 φ4 r4 => ?_) (fun d4 env4 e4 v4 σ4 B4 H4 φ4 F4 r4 => ?_) (fun e env4 e4 cls dx σ4 B4 H4 φ4 r4 => ?_) (fun z => hst (by rw [z] at q1; exact q1.symm))
      · rw [e4] at q1; exact ⟨B4, env4, φ4, r12.trans r4, q1⟩
      · rw [e4] at q1; exact hn env4 q1.symm σ4 B4 H4 φ4 (r12.trans r4)
      · rw [e4] at q1; exact ⟨B4, env4, φ4, r12.trans r4, q1⟩
      · rw [e4] at q1; exact hr d4 env4 q1.symm v4 σ4 B4 H4 φ4 F4 (RsR.pre r12 r4)
      · rw [e4] at q1; exact hx e env4 q1.symm cls dx σ4 B4 H4 φ4 (RsX.pre r12 r4)⟩
end
end DP


set_option Elab.async false
set_option linter.all false
set_option maxRecDepth 100000
set_option maxHeartbeats 4000000
namespace DP
open PySem L2 Evl

/-! ### places within a slot's value -/
def getP : List Nat → D → Option D
  | [], d => some d
  | i :: p, .con _ _ l => l[i]?.bind (getP p)
  | _ :: _, _ => none
def setP : List Nat → D → D → D
  | [], _, e => e
  | i :: p, .con o k l, e => match l[i]? with
    | some d => .con o k (l.set i (setP p d e))
    | none => .con o k l
  | _ :: _, d, _ => d
def AtO (G : Gx) (B H : Hp) : List Nat → D → V → List Addr → V → Prop
  | [], d, v, F, w => w = v ∧ Own G B H d v F
  | i :: p, d, v, F, w => ∃ o k l a xs F1 F2 F3 x d', d = .con o k l ∧ v = .ref a ∧ Cell G B H o k a xs ∧ F = ownF o a (F1 ++ (F2 ++ F3)) ∧ (o = false → k ≠ .tup → F1 ++ (F2 ++ F3) = []) ∧
    Owns G B H (l.take i) (xs.take i) F1 ∧ l[i]? = some d' ∧ xs[i]? = some x ∧ AtO G B H p d' x F2 w ∧ Owns G B H (l.drop (i + 1)) (xs.drop (i + 1)) F3
section
variable {G : Gx} {B H : Hp}
theorem Owns.split : ∀ {l : List D} {xs : List V} {F : List Addr} {i : Nat} {d : D}, Owns G B H l xs F → l[i]? = some d → ∃ x F1 F2 F3, xs[i]? = some x ∧ F = F1 ++ (F2 ++ F3) ∧ Owns G B H (l.take i) (xs.take i) F1 ∧ Own G B H d x F2 ∧ Owns G B H (l.drop (i + 1)) (xs.drop (i + 1)) F3
  | [], _, _, i, d, h, e => by simp at e
  | d0 :: l, _, _, i, d, h, e => by
    obtain ⟨x, xs', F1, F2, e1, e2, e3, e4⟩ := h
    subst e1; subst e2
    cases i with
    | zero =>
      simp at e; subst e
      exact ⟨x, [], F1, F2, rfl, rfl, Owns.nil, e3, e4⟩
    | succ i =>
      obtain ⟨y, G1, G2, G3, q1, q2, q3, q4, q5⟩ := Owns.split (i := i) e4 (by simpa using e)
      exact ⟨y, F1 ++ G1, G2, G3, by simpa using q1, by rw [q2, List.append_assoc], Owns.cons e3 q3, q4, q5⟩
theorem Owns.mid {l : List D} {xs : List V} {F1 F2 F3 : List Addr} {i : Nat} {d d' : D} {x : V} (h1 : Owns G B H (l.take i) (xs.take i) F1) (h2 : Own G B H d x F2) (h3 : Owns G B H (l.drop (i + 1)) (xs.drop (i + 1)) F3) (e1 : l[i]? = some d') (e2 : xs[i]? = some x) : Owns G B H (l.set i d) xs (F1 ++ (F2 ++ F3)) := by
  obtain ⟨a1, b1⟩ := List.getElem?_eq_some_iff.mp e1
  obtain ⟨a2, b2⟩ := List.getElem?_eq_some_iff.mp e2
  have q : l.set i d = l.take i ++ d :: l.drop (i + 1) := by rw [List.set_eq_take_append_cons_drop, if_pos a1]
  have q2 : xs = xs.take i ++ x :: xs.drop (i + 1) := by
    rw [← b2, ← List.drop_eq_getElem_cons a2, List.take_append_drop]
  have q3 := Owns.append h1 (Owns.cons h2 h3)
  rw [← q2, ← q] at q3
  exact q3
theorem Owns.mid0 {l : List D} {xs : List V} {F1 F2 F3 : List Addr} {i : Nat} {d : D} {x : V} (h1 : Owns G B H (l.take i) (xs.take i) F1) (h2 : Own G B H d x F2) (h3 : Owns G B H (l.drop (i + 1)) (xs.drop (i + 1)) F3) (e1 : l[i]? = some d) (e2 : xs[i]? = some x) : Owns G B H l xs (F1 ++ (F2 ++ F3)) := by
  have := Owns.mid h1 h2 h3 e1 e2
  obtain ⟨a1, b1⟩ := List.getElem?_eq_some_iff.mp e1
  rw [show l.set i d = l by rw [← b1]; exact List.set_getElem_self a1] at this
  exact this
theorem AtO.own : ∀ {p : List Nat} {d : D} {v w : V} {F : List Addr}, AtO G B H p d v F w → Own G B H d v F
  | [], _, _, _, _, h => h.2
  | i :: p, _, _, _, _, h => by
    obtain ⟨o, k, l, a, xs, F1, F2, F3, x, d', rfl, rfl, e3, e4, e5, e6, e7, e8, e9, e10⟩ := h
    exact ⟨a, xs, F1 ++ (F2 ++ F3), rfl, Owns.mid0 e6 e9.own e10 e7 e8, e3, e4, e5⟩
theorem AtO.sub : ∀ {p : List Nat} {d : D} {v w : V} {F : List Addr}, AtO G B H p d v F w → ∃ d' F', getP p d = some d' ∧ Own G B H d' w F' ∧ F'.Sublist F
  | [], d, _, _, F, h => ⟨d, F, rfl, by rw [h.1]; exact h.2, List.Sublist.refl _⟩
  | i :: p, _, _, _, _, h => by
    obtain ⟨o, k, l, a, xs, F1, F2, F3, x, d', rfl, rfl, e3, e4, e5, e6, e7, e8, e9, e10⟩ := h
    obtain ⟨d2, F', q1, q2, q3⟩ := e9.sub
    refine ⟨d2, F', by show l[i]?.bind (getP p) = _; rw [e7]; exact q1, q2, ?_⟩
    rw [e4]
    exact (q3.trans ((List.sublist_append_left _ _).trans (List.sublist_append_right _ _))).trans sub_ownF
theorem AtO.mono {B' H' : Hp} (e : Ex B B') : ∀ {p : List Nat} {d : D} {v w : V} {F : List Addr}, AtO G B H p d v F w → (∀ a ∈ F, ∀ o, H a = some o → H' a = some o) → AtO G B' H' p d v F w
  | [], _, _, _, _, h, k => ⟨h.1, Own.mono e h.2 k⟩
  | i :: p, _, _, _, _, h, kk => by
    obtain ⟨o, k, l, a, xs, F1, F2, F3, x, d', rfl, rfl, e3, e4, e5, e6, e7, e8, e9, e10⟩ := h
    have sub : ∀ b, b ∈ F1 ++ (F2 ++ F3) → ∀ o, H b = some o → H' b = some o := fun b hb => kk b (by rw [e4]; exact sub_ownF.subset hb)
    refine ⟨o, k, l, a, xs, F1, F2, F3, x, d', rfl, rfl, ?_, e4, e5, Owns.mono e e6 (fun b hb => sub b (List.mem_append_left _ hb)), e7, e8, e9.mono e (fun b hb => sub b (List.mem_append_right _ (List.mem_append_left _ hb))), Owns.mono e e10 (fun b hb => sub b (List.mem_append_right _ (List.mem_append_right _ hb)))⟩
    cases o with
    | true =>
      obtain ⟨c1, ho, c2⟩ := e3
      have ka := kk a (by rw [e4]; exact List.mem_cons_self)
      exact ⟨c1.ex ka, ho, ka _ c2⟩
    | false => exact CellIs.ex (M := B) e3 (fun o => e a o)
/-- one step further -/
theorem AtO.snoc (ex : Ex B H) : ∀ {p : List Nat} {d : D} {v w : V} {F : List Addr} {o : Bool} {k : Kind} {l : List D}, AtO G B H p d v F w → getP p d = some (.con o k l) →
    ∃ a xs, w = .ref a ∧ CellIs G H k a xs ∧ xs.length = l.length ∧ ∀ i d', l[i]? = some d' → ∃ x, xs[i]? = some x ∧ AtO G B H (p ++ [i]) d v F x
  | [], d, v, w, F, o, k, l, h, e => by
    obtain ⟨rfl, h⟩ := h
    cases e
    have c := h.cell ex
    obtain ⟨a, xs, F', rfl, e2, e3, e4, e5⟩ := h
    have c3 : CellIs G H k a xs := by
      cases o with
      | true => exact e3.1
      | false => exact CellIs.ex (M := B) e3 (fun o => ex a o)
    refine ⟨a, xs, rfl, c3, e2.length.symm, fun i d' hi => ?_⟩
    obtain ⟨x, F1, F2, F3, q1, q2, q3, q4, q5⟩ := e2.split hi
    exact ⟨x, q1, o, k, l, a, xs, F1, F2, F3, x, d', rfl, rfl, e3, by rw [e4, q2], by rw [← q2]; exact e5, q3, hi, q1, ⟨rfl, q4⟩, q5⟩
  | j :: p, d, v, w, F, o, k, l, h, e => by
    obtain ⟨o1, k1, l1, a1, xs1, F1, F2, F3, x, d', rfl, rfl, e3, e4, e5, e6, e7, e8, e9, e10⟩ := h
    have e' : getP p d' = some (.con o k l) := by
      have : l1[j]?.bind (getP p) = some (.con o k l) := e
      rw [e7] at this; exact this
    obtain ⟨a, xs, q1, q2, q3, q4⟩ := AtO.snoc ex e9 e'
    refine ⟨a, xs, q1, q2, q3, fun i d2 hi => ?_⟩
    obtain ⟨y, z1, z2⟩ := q4 i d2 hi
    exact ⟨y, z1, o1, k1, l1, a1, xs1, F1, F2, F3, x, d', rfl, rfl, e3, e4, e5, e6, e7, e8, z2, e10⟩
/-- the owned thing at a place is changed -/
theorem AtO.modify : ∀ {p : List Nat} {d : D} {v w : V} {F : List Addr} {k : Kind} {l : List D}, AtO G B H p d v F w → F.Nodup → getP p d = some (.con true k l) →
    ∃ a xs Fs, w = .ref a ∧ CellIs G H k a xs ∧ Owns G B H l xs Fs ∧ (a :: Fs).Sublist F ∧ ∀ (B' H' : Hp) (k' : Kind) (l' : List D) (xs' : List V) (Fn : List Addr), Ex B B' →
    (∀ b ∈ F, b ≠ a → ∀ o, H b = some o → H' b = some o) → CellIs G H' k' a xs' → (∃ o, H' a = some o) → Owns G B' H' l' xs' Fn → Fn.Nodup → a ∉ Fn → (∀ b ∈ Fn, b ∈ F → b ∈ Fs) →
    ∃ F', Own G B' H' (setP p d (.con true k' l')) v F' ∧ F'.Nodup ∧ (∀ b ∈ F', b ∈ F ∨ b ∈ Fn) ∧ (∀ b ∈ F', b ∈ Fs → b ∈ Fn)
  | [], d, v, w, F, k, l, h, nd, e => by
    obtain ⟨rfl, h⟩ := h
    cases e
    obtain ⟨a, xs, F', e1, e2, e3, e4, e5⟩ := h
    refine ⟨a, xs, F', e1, e3.1, e2, by rw [e4]; exact List.Sublist.refl _, fun B' H' k' l' xs' Fn eb keep c ha ow ndn an dis => ?_⟩
    subst e1
    refine ⟨a :: Fn, ⟨a, xs', Fn, rfl, ow, ⟨c, ha⟩, rfl, fun z => nomatch z⟩, List.nodup_cons.mpr ⟨an, ndn⟩, fun b hb => ?_, fun b hb hs => ?_⟩
    · rcases List.mem_cons.mp hb with rfl | hb
      · exact .inl (by rw [e4]; exact List.mem_cons_self)
      · exact .inr hb
    · rcases List.mem_cons.mp hb with rfl | hb
      · rw [e4] at nd; exact absurd hs (List.nodup_cons.mp nd).1
      · exact hb
  | j :: p, d, v, w, F, k, l, h, nd, e => by
    obtain ⟨o1, k1, l1, a1, xs1, F1, F2, F3, x, d', rfl, rfl, e3, e4, e5, e6, e7, e8, e9, e10⟩ := h
    have e' : getP p d' = some (.con true k l) := by
      have : l1[j]?.bind (getP p) = some (.con true k l) := e
      rw [e7] at this; exact this
    have subF : ∀ b, b ∈ F1 ++ (F2 ++ F3) → b ∈ F := fun b hb => by rw [e4]; exact sub_ownF.subset hb
    have nd' : (F1 ++ (F2 ++ F3)).Nodup := by rw [e4] at nd; exact nd.sublist sub_ownF
    obtain ⟨n1, n23, n123⟩ := List.nodup_append.mp nd'
    obtain ⟨n2, n3, n23'⟩ := List.nodup_append.mp n23
    obtain ⟨a, xs, Fs, rfl, q2, q3, q4, q5⟩ := AtO.modify (p := p) e9 n2 e'
    have aF2 : a ∈ F2 := q4.subset List.mem_cons_self
    refine ⟨a, xs, Fs, rfl, q2, q3, by rw [e4]; exact (q4.trans ((List.sublist_append_left _ _).trans (List.sublist_append_right _ _))).trans sub_ownF, fun B' H' k' l' xs' Fn eb keep c ha ow ndn an dis => ?_⟩
    have disF : ∀ b ∈ Fn, b ∈ F → b ∈ F2 := fun b hb hF => q4.subset (List.mem_cons_of_mem _ (dis b hb hF))
    obtain ⟨F2', r1, r2, r3, r5⟩ := q5 B' H' k' l' xs' Fn eb (fun b hb => keep b (subF b (List.mem_append_right _ (List.mem_append_left _ hb)))) c ha ow ndn an (fun b hb hF => dis b hb (subF b (List.mem_append_right _ (List.mem_append_left _ hF))))
    have ne1 : ∀ b ∈ F1, b ≠ a := fun b hb z => n123 b hb a (List.mem_append_left _ aF2) z
    have ne3 : ∀ b ∈ F3, b ≠ a := fun b hb z => n23' a aF2 b hb z.symm
    have ne : F1 ++ (F2 ++ F3) ≠ [] := fun z => by
      have := List.append_eq_nil_iff.mp (List.append_eq_nil_iff.mp z).2
      rw [this.1] at aF2; cases aF2
    have a1ne : o1 = true → a1 ≠ a := fun ho z => by
      subst ho
      rw [e4] at nd
      exact (List.nodup_cons.mp nd).1 (by rw [z]; exact List.mem_append_right _ (List.mem_append_left _ aF2))
    refine ⟨ownF o1 a1 (F1 ++ (F2' ++ F3)), ?_, ?_, fun b hb => ?_, fun b hb hs => ?_⟩
    · show Own G B' H' (match l1[j]? with | some d => D.con o1 k1 (l1.set j (setP p d (.con true k' l'))) | none => .con o1 k1 l1) (.ref a1) _
      rw [e7]
      refine ⟨a1, xs1, F1 ++ (F2' ++ F3), rfl, Owns.mid (Owns.mono eb e6 fun b hb => keep b (subF b (List.mem_append_left _ hb)) (ne1 b hb)) r1 (Owns.mono eb e10 fun b hb => keep b (subF b (List.mem_append_right _ (List.mem_append_right _ hb))) (ne3 b hb)) e7 e8, ?_, rfl, fun ho hk => absurd (e5 ho hk) ne⟩
      cases o1 with
      | true =>
        obtain ⟨c1, ho, c2⟩ := e3
        have ka := keep a1 (by rw [e4]; exact List.mem_cons_self) (a1ne rfl)
        exact ⟨c1.ex ka, ho, ka _ c2⟩
      | false => exact CellIs.ex (M := B) e3 (fun o => eb a1 o)
    · have f2 : ∀ b ∈ F2', b ∈ F → b ∈ F2 := fun b hb hF => by
        rcases r3 b hb with z | z
        · exact z
        · exact disF b z hF
      have n' : (F1 ++ (F2' ++ F3)).Nodup := by
        refine List.nodup_append.mpr ⟨n1, List.nodup_append.mpr ⟨r2, n3, fun b hb c hc z => ?_⟩, fun b hb c hc z => ?_⟩
        · subst z
          exact n23' b (f2 b hb (subF b (List.mem_append_right _ (List.mem_append_right _ hc)))) b hc rfl
        · subst z
          rcases List.mem_append.mp hc with hc | hc
          · exact n123 b hb b (List.mem_append_left _ (f2 b hc (subF b (List.mem_append_left _ hb)))) rfl
          · exact n123 b hb b (List.mem_append_right _ hc) rfl
      unfold ownF
      split
      · rename_i ho
        subst ho
        have a1F : a1 ∈ F := by rw [e4]; exact List.mem_cons_self
        have nn : a1 ∉ F1 ++ (F2 ++ F3) := by rw [e4] at nd; exact (List.nodup_cons.mp nd).1
        refine List.nodup_cons.mpr ⟨fun z => ?_, n'⟩
        rcases List.mem_append.mp z with z | z
        · exact nn (List.mem_append_left _ z)
        · rcases List.mem_append.mp z with z | z
          · exact nn (List.mem_append_right _ (List.mem_append_left _ (f2 a1 z a1F)))
          · exact nn (List.mem_append_right _ (List.mem_append_right _ z))
      · exact n'
    · have hb' : b ∈ F1 ++ (F2' ++ F3) ∨ (o1 = true ∧ b = a1) := by
        unfold ownF at hb
        split at hb
        · rename_i ho
          rcases List.mem_cons.mp hb with z | z
          · exact .inr ⟨ho, z⟩
          · exact .inl z
        · exact .inl hb
      rcases hb' with z | ⟨ho, z⟩
      · rcases List.mem_append.mp z with z | z
        · exact .inl (subF b (List.mem_append_left _ z))
        · rcases List.mem_append.mp z with z | z
          · exact (r3 b z).imp (fun y => subF b (List.mem_append_right _ (List.mem_append_left _ y))) id
          · exact .inl (subF b (List.mem_append_right _ (List.mem_append_right _ z)))
      · subst ho; subst z
        exact .inl (by rw [e4]; exact List.mem_cons_self)
    · have hs2 : b ∈ F2 := q4.subset (List.mem_cons_of_mem _ hs)
      have hb' : b ∈ F1 ++ (F2' ++ F3) ∨ (o1 = true ∧ b = a1) := by
        unfold ownF at hb
        split at hb
        · rename_i ho
          rcases List.mem_cons.mp hb with z | z
          · exact .inr ⟨ho, z⟩
          · exact .inl z
        · exact .inl hb
      rcases hb' with z | ⟨ho, z⟩
      · rcases List.mem_append.mp z with z | z
        · exact absurd rfl (n123 b z b (List.mem_append_left _ hs2))
        · rcases List.mem_append.mp z with z | z
          · exact r5 b z hs
          · exact absurd rfl (n23' b hs2 b z)
      · subst ho; subst z
        rw [e4] at nd
        exact absurd (List.mem_append_right _ (List.mem_append_left _ hs2)) (List.nodup_cons.mp nd).1
end

/-! ### the places' readings -/
/-- what stands in slot r -/
structure InSlot (G : Gx) (B H : Hp) (env : Env) (σ : L2.St) (φ : Nat → List Addr) (r : Nat) (d : D) (v : V) : Prop where
  env : env[r]? = some d
  sig : σ[r]? = some (some v)
  ow : Own G B H d v (φ r)
/-- a place in slot r: its path -/
def SimPl (G : Gx) (W : WX) (r : Nat) (t : TE) (f : Env → R (List Nat)) : Prop := ∀ B H env σ φ Q, Sta G B H env σ φ →
  (∀ p, f env = .ok p → ∀ d v w B' H', Gr B H B' H' → env[r]? = some d → σ[r]? = some (some v) → AtO G B' H' p d v (φ r) w → Q w H') →
  (∀ e, f env = .exc e → ∀ cls dx B' H', Rx G B H B' H' e cls dx → W cls dx σ H') → f env ≠ .stk → t σ H Q
def plN (r : Nat) : Env → R (List Nat) := fun env => match env[r]? with
  | some .unk => .stk
  | some _ => .ok []
  | none => .stk
/-- what stands at a place -/
def atP (r : Nat) (env : Env) (p : List Nat) : Option D := env[r]?.bind (getP p)
/-- .. its i-th item -/
def ixStep (d : Option D) (x : D) (p : List Nat) : R (List Nat) := match d, x with
  | some (.con _ .lst l), .int i => match ixN l.length i with
    | some j => if j < l.length then .ok (p ++ [j]) else .stk
    | none => .stk
  | some (.con _ .tup l), .int i => match ixN l.length i with
    | some j => if j < l.length then .ok (p ++ [j]) else .stk
    | none => .stk
  | _, _ => .stk
def plIx (r : Nat) (f : Env → R (List Nat)) (g : Env → R D) : Env → R (List Nat) := fun env => f env >>= fun p => g env >>= fun x => ixStep (atP r env p) x p
section
variable {G : Gx} {W : WX} {r : Nat} {m : Option Nat} {tp ti te : TE} {fp : Env → R (List Nat)} {fi : Env → R D}
theorem simPl_N : SimPl G W r (tVar r) (plN r) := fun B H env σ φ Q S hok hex hst => by
  cases q : env[r]? with
  | none => exact absurd (by unfold plN; rw [q]) hst
  | some d =>
    by_cases hu : d = .unk
    · exact absurd (by unfold plN; rw [q, hu]) hst
    rcases S.slot r d q with h | ⟨v, h1, h2⟩
    · exact absurd h hu
    · exact ⟨v, h1, hok [] (by unfold plN; rw [q]; cases d <;> first | rfl | exact absurd rfl hu) d v v B H (Gr.refl S.ex) q h1 ⟨rfl, h2⟩⟩
theorem rIx_lst {K : PySem.W.Frag} {H : Hp} {a : Addr} {xs : List V} {i : Int} {j : Nat} {x : V} {Q : VK} (h : H a = some (.lst xs)) (hj : ixN xs.length i = some j) (hx : xs[j]? = some x) (q : Q x H) : rIx K (.ref a) (.int i) H Q :=
  .inl ⟨a, xs, i, x, rfl, rfl, SqL.of h, by unfold atI; rw [hj]; exact hx, q⟩
theorem rIx_tup {K : PySem.W.Frag} {H : Hp} {a : Addr} {xs : List V} {i : Int} {j : Nat} {x : V} {Q : VK} (h : H a = some (.tup xs)) (hj : ixN xs.length i = some j) (hx : xs[j]? = some x) (q : Q x H) : rIx K (.ref a) (.int i) H Q :=
  .inr (.inl ⟨a, xs, i, x, rfl, rfl, SqT.of h, by unfold atI; rw [hj]; exact hx, q⟩)
theorem simPl_ix (hp : SimPl G W r tp fp) (hi : Sim G W m ti fi) : SimPl G W r (tOp (rIx G.K) tp ti) (plIx r fp fi) := fun B H env σ φ Q S hok hex hst => by
  refine hp B H env σ φ _ S (fun p hp' d v w B1 H1 g1 e1 e2 at1 => ?_) (fun e he cls dx B' H' rx => hex e (by show (fp env >>= _) = _; rw [he]; rfl) cls dx B' H' rx) (bind_stk hst)
  refine hi B1 H1 env σ φ _ (S.grow g1) (fun x hx u B2 H2 F2 r2 => ?_) (fun e he cls dx B' H' rx => hex e (by show (fp env >>= _) = _; rw [hp', R.ok_bind, he]; rfl) cls dx B' H' (rx.pre g1)) (fun z => hst (by show (fp env >>= _) = _; rw [hp', R.ok_bind, z]; rfl))
  have E : plIx r fp fi env = ixStep (atP r env p) x p := by show (fp env >>= _) = _; rw [hp', R.ok_bind, hx]; rfl
  have at2 := at1.mono r2.gr.bb (fun a _ o => r2.gr.hh a o)
  obtain ⟨d', F', s1, s2, s3⟩ := at2.sub
  have ea : atP r env p = some d' := by unfold atP; rw [e1]; exact s1
  rw [ea] at E
  have fin : ∀ {o : Bool} {k : Kind} {l : List D} {i : Int}, d' = .con o k l → x = .int i → (k = .lst ∨ k = .tup) → (plIx r fp fi env = match ixN l.length i with
      | some j => if j < l.length then R.ok (p ++ [j]) else .stk
      | none => .stk) → rIx G.K w u H2 Q := by
    intro o k l i hd hxi hk E2
    subst hd; subst hxi
    obtain ⟨rfl, _⟩ := r2.ow
    cases q : ixN l.length i with
    | none => rw [q] at E2; exact absurd E2 hst
    | some j =>
      rw [q] at E2
      by_cases hj : j < l.length
      · have E3 : plIx r fp fi env = .ok (p ++ [j]) := by rw [E2]; exact if_pos hj
        obtain ⟨a, xs, rfl, c, hl, nxt⟩ := AtO.snoc r2.gr.bh at2 s1
        obtain ⟨y, y1, y2⟩ := nxt j l[j] (List.getElem?_eq_getElem hj)
        have fq := hok (p ++ [j]) E3 d v y B2 H2 (g1.trans r2.gr) e1 e2 y2
        rcases hk with rfl | rfl
        · exact rIx_lst c (by rw [hl]; exact q) y1 fq
        · exact rIx_tup c (by rw [hl]; exact q) y1 fq
      · exact absurd (by rw [E2]; exact if_neg hj) hst
  have no : (∀ o l i, ¬ (d' = .con o .lst l ∧ x = .int i)) → (∀ o l i, ¬ (d' = .con o .tup l ∧ x = .int i)) → ixStep (some d') x p = .stk := fun n1 n2 => by
    unfold ixStep
    split
    · rename_i o l i hd; cases hd; exact absurd ⟨rfl, rfl⟩ (n1 o l i)
    · rename_i o l i hd; cases hd; exact absurd ⟨rfl, rfl⟩ (n2 o l i)
    · rfl
  by_cases c1 : ∃ o l i, d' = .con o .lst l ∧ x = .int i
  · obtain ⟨o, l, i, h1, h2⟩ := c1
    refine fin h1 h2 (.inl rfl) ?_
    rw [E, h1, h2]; rfl
  by_cases c2 : ∃ o l i, d' = .con o .tup l ∧ x = .int i
  · obtain ⟨o, l, i, h1, h2⟩ := c2
    refine fin h1 h2 (.inr rfl) ?_
    rw [E, h1, h2]; rfl
  · exact absurd (E.trans (no (fun o l i z => c1 ⟨o, l, i, z⟩) (fun o l i z => c2 ⟨o, l, i, z⟩))) hst
/-- a place is read -/
def eAt (r : Nat) (f : Env → R (List Nat)) : Env → R D := fun env => f env >>= fun p => match atP r env p with
  | some .unk => .stk
  | some d => .ok d
  | none => .stk
theorem sim_at (hp : SimPl G W r tp fp) : Sim G W (some r) tp (eAt r fp) := fun B H env σ φ Q S hok hex hst => by
  refine hp B H env σ φ _ S (fun p hp' d v w B1 H1 g1 e1 e2 at1 => ?_) (fun e he cls dx B' H' rx => hex e (by show (fp env >>= _) = _; rw [he]; rfl) cls dx B' H' rx) (bind_stk hst)
  obtain ⟨d', F', s1, s2, s3⟩ := at1.sub
  have ea : atP r env p = some d' := by unfold atP; rw [e1]; exact s1
  have E : eAt r fp env = match atP r env p with
    | some .unk => .stk
    | some d => .ok d
    | none => .stk := by show (fp env >>= _) = _; rw [hp']; rfl
  rw [ea] at E
  by_cases hu : d' = .unk
  · subst hu; exact absurd E hst
  · have E2 : eAt r fp env = .ok d' := by rw [E]; cases d' <;> first | rfl | exact absurd rfl hu
    exact hok d' E2 w B1 H1 F' ⟨g1, s2, (S.nd r).sublist s3, fun a ha => out_grow g1 (fun a ha => S.out r a ha) (fun a ha => S.dom r a ha) a (s3.subset ha), fun a ha => .inr ⟨r, rfl, s3.subset ha⟩⟩
end
end DP


set_option Elab.async false
set_option linter.all false
set_option maxRecDepth 100000
set_option maxHeartbeats 4000000
namespace DP
open PySem L2 Evl

section
variable {G : Gx} {W : WX} {r : Nat} {μ chg rea : List Nat} {B H B' H' : Hp} {env env' : Env} {σ : L2.St} {φ φ' : Nat → List Addr}
/-- a slot that nobody touched keeps its footprint -/
theorem Sta.swap {d : D} {v : V} (S : Sta G B H env σ φ) (S' : Sta G B' H' env' σ φ') (T : Tr μ φ B H B' H' φ') (hr : r ∉ μ) (e : env[r]? = some d) (e' : env'[r]? = some d) (es : σ[r]? = some (some v)) (o : Own G B H d v (φ r)) : Sta G B' H' env' σ (fun j => if j = r then φ r else φ' j) ∧ Tr μ φ B H B' H' (fun j => if j = r then φ r else φ' j) := by
  have kept : ∀ a ∈ φ r, ∀ u, H a = some u → H' a = some u := fun a ha u q => T.keep a u q fun i hi z => S.dj r i (fun e => hr (e ▸ hi)) a ha z
  have o' : Own G B' H' d v (φ r) := Own.mono T.bb o kept
  have apart : ∀ j, j ≠ r → ∀ a ∈ φ' j, a ∉ φ r := fun j hj a ha hc => by
    by_cases q : j ∈ μ
    · rcases T.fr j q a ha with z | ⟨k, hk, z⟩
      · obtain ⟨u, y⟩ := S.dom r a hc; rw [z] at y; cases y
      · exact S.dj k r (fun e => hr (e ▸ hk)) a z hc
    · exact S.dj j r hj a (T.same j q a ha) hc
  refine ⟨⟨S'.ex, S'.len, fun j c h => ?_, fun j => ?_, fun j k hjk a ha hb => ?_, fun j a ha => ?_, fun j a ha => ?_⟩, ⟨T.bb, T.keep, T.nw, fun j hj a ha => ?_, fun j hj a ha => ?_⟩⟩
  · by_cases q : j = r
    · subst q
      rw [e'] at h; cases h
      exact .inr ⟨v, es, by rw [if_pos rfl]; exact o'⟩
    · rw [if_neg q]; exact S'.slot j c h
  · show (if j = r then φ r else φ' j).Nodup
    split
    · exact S.nd r
    · exact S'.nd j
  · have ha' : a ∈ (if j = r then φ r else φ' j) := ha
    have hb' : a ∈ (if k = r then φ r else φ' k) := hb
    split at ha' <;> split at hb'
    · rename_i h1 h2; exact hjk (h1.trans h2.symm)
    · rename_i h1 h2; exact apart k h2 a hb' ha'
    · rename_i h1 h2; exact apart j h1 a ha' hb'
    · exact S'.dj j k hjk a ha' hb'
  · have ha' : a ∈ (if j = r then φ r else φ' j) := ha
    split at ha'
    · cases q : B' a with
      | none => rfl
      | some u =>
        rcases T.nw a u q (S.out r a ha') with z | ⟨i, hi, z⟩
        · obtain ⟨y, y2⟩ := S.dom r a ha'; rw [z] at y2; cases y2
        · exact absurd z (S.dj r i (fun e => hr (e ▸ hi)) a ha')
    · exact S'.out j a ha'
  · have ha' : a ∈ (if j = r then φ r else φ' j) := ha
    split at ha'
    · obtain ⟨y, y2⟩ := S.dom r a ha'; exact ⟨y, kept a ha' y y2⟩
    · exact S'.dom j a ha'
  · have ha' : a ∈ (if j = r then φ r else φ' j) := ha
    split at ha'
    · rename_i q; rw [q]; exact ha'
    · exact T.same j hj a ha'
  · have ha' : a ∈ (if j = r then φ r else φ' j) := ha
    split at ha'
    · rename_i q; exact absurd (q ▸ hj) hr
    · exact T.fr j hj a ha'
/-- the owned thing at a place of slot r is changed; F1: what the new parts own -/
theorem Sta.modify {p : List Nat} {d : D} {v w : V} {k : Kind} {l : List D} (S : Sta G B H env σ φ) (e : env[r]? = some d) (es : σ[r]? = some (some v)) (at1 : AtO G B H p d v (φ r) w) (gp : getP p d = some (.con true k l)) :
    ∃ a xs Fs, w = .ref a ∧ CellIs G H k a xs ∧ Owns G B H l xs Fs ∧ (a :: Fs).Sublist (φ r) ∧ ∀ (ho : HO) (k' : Kind) (l' : List D) (xs' : List V) (F1 Fn : List Addr), CellIs G (upd H a ho) k' a xs' → Owns G B (upd H a ho) l' xs' Fn → Fn.Nodup → a ∉ Fn →
      (∀ b ∈ Fn, b ∈ Fs ∨ b ∈ F1) → (∀ b ∈ F1, ∀ i, b ∉ φ i) → (∀ b ∈ F1, B b = none) →
      ∃ F', Sta G B (upd H a ho) (env.set r (setP p d (.con true k' l'))) σ (fun j => if j = r then F' else φ j) ∧ (∀ b ∈ F', b ∈ φ r ∨ b ∈ F1) ∧ Ex B (upd H a ho) ∧ (∀ b ∈ F', b ∈ Fs → b ∈ Fn) := by
  obtain ⟨a, xs, Fs, rfl, q2, q3, q4, q5⟩ := at1.modify (S.nd r) gp
  have ar : a ∈ φ r := q4.subset List.mem_cons_self
  refine ⟨a, xs, Fs, rfl, q2, q3, q4, fun ho k' l' xs' F1 Fn cc ow nd an fn f1 f1b => ?_⟩
  have bk : ∀ b, b ≠ a → ∀ o, H b = some o → upd H a ho b = some o := fun b hb o q => by rw [upd_ne hb]; exact q
  obtain ⟨F', r1, r2, r3, r5⟩ := q5 B (upd H a ho) k' l' xs' Fn (Ex.refl B) (fun b _ hb o q => bk b hb o q) cc ⟨ho, upd_same⟩ ow nd an (fun b hb hF => by
    rcases fn b hb with z | z
    · exact z
    · exact absurd hF (f1 b z r))
  have r4 : ∀ b ∈ F', b ∈ φ r ∨ b ∈ F1 := fun b hb => by
    rcases r3 b hb with z | z
    · exact .inl z
    · rcases fn b z with y | y
      · exact .inl (q4.subset (List.mem_cons_of_mem _ y))
      · exact .inr y
  have ex' : Ex B (upd H a ho) := fun b o q => bk b (fun z => by rw [z, S.out r a ar] at q; cases q) o (S.ex b o q)
  have S1 : Sta G B (upd H a ho) (env.set r .unk) σ (fun j => if j = r then [] else φ j) := by
    refine ⟨ex', by rw [List.length_set]; exact S.len, fun j c h => ?_, fun j => ?_, fun j k hjk b hb hc => ?_, fun j b hb => ?_, fun j b hb => ?_⟩
    · by_cases q : j = r
      · subst q
        by_cases hl : j < env.length
        · rw [List.getElem?_set_self hl] at h; cases h; exact .inl rfl
        · rw [List.getElem?_eq_none (by rw [List.length_set]; omega)] at h; cases h
      · rw [List.getElem?_set_ne (Ne.symm q)] at h
        rw [if_neg q]
        exact (S.slot j c h).imp id fun ⟨x, h1, h2⟩ => ⟨x, h1, Own.mono (Ex.refl B) h2 fun b hb o y => bk b (fun z => S.dj j r q b hb (z ▸ ar)) o y⟩
    · show (if j = r then [] else φ j).Nodup
      split
      · exact .nil
      · exact S.nd j
    · have hb' : b ∈ (if j = r then [] else φ j) := hb
      have hc' : b ∈ (if k = r then [] else φ k) := hc
      split at hb'
      · cases hb'
      · split at hc'
        · cases hc'
        · exact S.dj j k hjk b hb' hc'
    · have hb' : b ∈ (if j = r then [] else φ j) := hb
      split at hb'
      · cases hb'
      · exact S.out j b hb'
    · have hb' : b ∈ (if j = r then [] else φ j) := hb
      split at hb'
      · cases hb'
      · rename_i q
        obtain ⟨o, y⟩ := S.dom j b hb'
        exact ⟨o, bk b (fun z => S.dj j r q b hb' (z ▸ ar)) o y⟩
  refine ⟨F', ?_, r4, ex', r5⟩
  refine ⟨ex', by rw [List.length_set]; exact S.len, fun j c h => ?_, fun j => ?_, fun j k hjk b hb hc => ?_, fun j b hb => ?_, fun j b hb => ?_⟩
  · by_cases q : j = r
    · subst q
      by_cases hl : j < env.length
      · rw [List.getElem?_set_self hl] at h; cases h
        exact .inr ⟨v, es, by rw [if_pos rfl]; exact r1⟩
      · rw [List.getElem?_eq_none (by rw [List.length_set]; omega)] at h; cases h
    · rw [List.getElem?_set_ne (Ne.symm q)] at h
      have := S1.slot j c (by rw [List.getElem?_set_ne (Ne.symm q)]; exact h)
      rw [if_neg q] at this ⊢
      exact this
  · show (if j = r then F' else φ j).Nodup
    split
    · exact r2
    · exact S.nd j
  · have hb' : b ∈ (if j = r then F' else φ j) := hb
    have hc' : b ∈ (if k = r then F' else φ k) := hc
    split at hb' <;> split at hc'
    · rename_i h1 h2; exact hjk (h1.trans h2.symm)
    · rename_i h1 h2
      rcases r4 b hb' with z | z
      · exact S.dj r k (fun e => h2 e.symm) b z hc'
      · exact f1 b z k hc'
    · rename_i h1 h2
      rcases r4 b hc' with z | z
      · exact S.dj r j (fun e => h1 e.symm) b z hb'
      · exact f1 b z j hb'
    · exact S.dj j k hjk b hb' hc'
  · have hb' : b ∈ (if j = r then F' else φ j) := hb
    split at hb'
    · rcases r4 b hb' with z | z
      · exact S.out r b z
      · exact f1b b z
    · exact S.out j b hb'
  · have hb' : b ∈ (if j = r then F' else φ j) := hb
    split at hb'
    · exact r1.dom b hb'
    · rename_i q
      obtain ⟨o, y⟩ := S.dom j b hb'
      exact ⟨o, bk b (fun z => S.dj j r q b hb' (z ▸ ar)) o y⟩
/-- .. and where that leads from the state ahead of it -/
theorem Tr.modify {B2 H2 : Hp} {φ2 : Nat → List Addr} {a : Addr} {ho : HO} {F' F1 : List Addr} (T : Tr chg φ B H B2 H2 φ2) (rc : r ∈ chg) (ar : a ∈ φ2 r) (hF : ∀ b ∈ F', b ∈ φ2 r ∨ b ∈ F1) (f1 : ∀ b ∈ F1, H b = none ∨ ∃ j ∈ chg, b ∈ φ j) :
    Tr chg φ B H B2 (upd H2 a ho) (fun j => if j = r then F' else φ2 j) where
  bb := T.bb
  keep := fun b o h n => by
    have : b ≠ a := fun z => by
      rcases T.fr r rc a ar with y | ⟨j, hj, y⟩
      · rw [z, y] at h; cases h
      · exact n j hj (by rw [z]; exact y)
    rw [upd_ne this]; exact T.keep b o h n
  nw := T.nw
  same := fun j hj b hb => by
    have hb' : b ∈ (if j = r then F' else φ2 j) := hb
    rw [if_neg (fun z : j = r => hj (by rw [z]; exact rc))] at hb'
    exact T.same j hj b hb'
  fr := fun j hj b hb => by
    have hb' : b ∈ (if j = r then F' else φ2 j) := hb
    split at hb'
    · rcases hF b hb' with z | z
      · exact T.fr r rc b z
      · exact f1 b z
    · exact T.fr j hj b hb'
end

/-! ### the stores -/
def updP (r : Nat) (p : List Nat) (g : D → Option D) (env : Env) : Option Env := env[r]?.bind fun d => (getP p d).bind fun x => (g x).map fun y => env.set r (setP p d y)
def oFl : Option Env → Fl
  | some env => .nx env
  | none => .stk
@[simp] theorem oFl_some (env : Env) : oFl (some env) = .nx env := rfl
@[simp] theorem oFl_none : oFl none = .stk := rfl
def RPs (x : R (List Nat)) (env : Env) (k : List Nat → Fl) : Fl := match x with
  | .ok p => k p
  | .exc e => .exc e env
  | .stk => .stk
@[simp] theorem RPs_ok (p : List Nat) (env : Env) (k : List Nat → Fl) : RPs (.ok p) env k = k p := rfl
@[simp] theorem RPs_exc (e : Exc) (env : Env) (k : List Nat → Fl) : RPs (.exc e) env k = .exc e env := rfl
@[simp] theorem RPs_stk (env : Env) (k : List Nat → Fl) : RPs .stk env k = .stk := rfl
def appD (d : D) : D → Option D
  | .con true .lst l => if l.length < sizeLine then some (.own (l ++ [d])) else none
  | _ => none
def okL : Option D → Bool
  | some (.con _ .lst _) => true
  | _ => false
def sApp (r : Nat) (fp : Env → R (List Nat)) (fe : Ef D) : Env → Fl := fun env => RPs (fp env) env fun p => if okL (atP r env p) = true then REs (fe env) fun d env1 => oFl (updP r p (appD d) env1) else .stk
def setD (x d : D) : D → Option D
  | .con true .lst l => match x with
    | .int i => (ixN l.length i).map fun j => .own (l.set j d)
    | _ => none
  | _ => none
def sSetIx (r : Nat) (fe : Ef D) (fp : Env → R (List Nat)) (fi : Ef D) : Env → Fl := fun env => REs (fe env) fun d env1 => RPs (fp env1) env1 fun p => REs (fi env1) fun x env2 => oFl (updP r p (setD x d) env2)
theorem updP_some {r : Nat} {p : List Nat} {g : D → Option D} {env env' : Env} (h : updP r p g env = some env') : ∃ d x y, env[r]? = some d ∧ getP p d = some x ∧ g x = some y ∧ env' = env.set r (setP p d y) := by
  unfold updP at h
  simp only [Option.bind_eq_some_iff, Option.map_eq_some_iff] at h
  obtain ⟨d, h1, x, h2, y, h3, h4⟩ := h
  exact ⟨d, x, y, h1, h2, h3, h4.symm⟩
section
variable {G : Gx} {W : WX} {r : Nat} {μ chg rea : List Nat} {tp ti te : TE} {fp : Env → R (List Nat)} {fe fi : Ef D}
theorem okL_some {x : Option D} (h : okL x = true) : ∃ o l, x = some (.con o .lst l) := by
  unfold okL at h
  split at h
  · rename_i o l; exact ⟨o, l, rfl⟩
  · cases h
theorem lst_ty {B H : Hp} {o : Bool} {l : List D} {w : V} {F : List Addr} (e : Ex B H) (h : Own G B H (.con o .lst l) w F) : tyV G.K "list" w H := by
  obtain ⟨a, xs, F', rfl, q2, q3, q4⟩ := h.cell e
  exact .inl ⟨rfl, xs, SqL.of q3⟩
/-- behind a part's evaluation that leaves slot r alone -/
theorem AtO.past {B1 H1 B2 H2 : Hp} {env env2 : Env} {σ : L2.St} {φ φ2 : Nat → List Addr} {p : List Nat} {d0 : D} {v0 w : V} (S1 : Sta G B1 H1 env σ φ) (e1 : env[r]? = some d0) (e2 : σ[r]? = some (some v0)) (at1 : AtO G B1 H1 p d0 v0 (φ r) w) (hr : r ∉ μ) (T : Tr μ φ B1 H1 B2 H2 φ2) (S2 : Sta G B2 H2 env2 σ φ2) (en : ∀ i, i ∉ μ → env2[i]? = env[i]?) :
    AtO G B2 H2 p d0 v0 (φ r) w ∧ env2[r]? = some d0 ∧ Sta G B2 H2 env2 σ (fun j => if j = r then φ r else φ2 j) ∧ Tr μ φ B1 H1 B2 H2 (fun j => if j = r then φ r else φ2 j) := by
  have e3 : env2[r]? = some d0 := (en r hr).trans e1
  obtain ⟨S3, T3⟩ := S1.swap S2 T hr e1 e3 e2 at1.own
  exact ⟨at1.mono T.bb (fun a ha o q => T.keep a o q fun i hi z => S1.dj r i (fun e => hr (e ▸ hi)) a ha z), e3, S3, T3⟩
/-- THE STORE: an owned thing at a place of slot r takes new contents; F: what the value that is stored owns -/
theorem store_end {B H B2 H2 : Hp} {env env2 : Env} {σ : L2.St} {φ φs : Nat → List Addr} {p : List Nat} {d0 : D} {v0 w : V} {k : Kind} {l0 : List D} {F : List Addr} (rc : r ∈ chg) (T2 : Tr chg φ B H B2 H2 φs) (S3 : Sta G B2 H2 env2 σ φs) (en : ∀ i, i ∉ chg → env2[i]? = env[i]?)
    (e3 : env2[r]? = some d0) (e2 : σ[r]? = some (some v0)) (at2 : AtO G B2 H2 p d0 v0 (φs r) w) (s1 : getP p d0 = some (.con true k l0)) (dF : ∀ b ∈ F, ∀ i, b ∉ φs i) (oF : ∀ b ∈ F, B2 b = none) (fF : ∀ b ∈ F, H b = none ∨ ∃ j ∈ chg, b ∈ φ j) :
    ∃ a xs Fs, w = .ref a ∧ CellIs G H2 k a xs ∧ Owns G B2 H2 l0 xs Fs ∧ a ∉ Fs ∧ a ∉ F ∧ Fs.Nodup ∧ (∀ b ∈ Fs, b ∉ F) ∧ a ∈ φs r ∧ (∀ b ∈ Fs, b ∈ φs r) ∧ ∀ (ho : HO) (k' : Kind) (l' : List D) (xs' : List V) (Fn : List Addr), CellIs G (upd H2 a ho) k' a xs' → Owns G B2 H2 l' xs' Fn → Fn.Nodup → (∀ b ∈ Fn, b ∈ Fs ∨ b ∈ F) →
      ∃ F', RsS G rea chg φ B H env σ (env2.set r (setP p d0 (.con true k' l'))) σ B2 (upd H2 a ho) (fun j => if j = r then F' else φs j) ∧ Own G B2 (upd H2 a ho) (setP p d0 (.con true k' l')) v0 F' ∧ (∀ b ∈ F', b ∈ Fs → b ∈ Fn) := by
  obtain ⟨a, xs, Fs, rfl, c, ow, sub, go⟩ := S3.modify e3 e2 at2 s1
  have ar : a ∈ φs r := sub.subset List.mem_cons_self
  have nsub : (a :: Fs).Nodup := (S3.nd r).sublist sub
  have sF : ∀ b ∈ Fs, b ∈ φs r := fun b hb => sub.subset (List.mem_cons_of_mem a hb)
  have aF : a ∉ F := fun z => dF a z r ar
  refine ⟨a, xs, Fs, rfl, c, ow, (List.nodup_cons.mp nsub).1, aF, (List.nodup_cons.mp nsub).2, fun b hb hc => dF b hc r (sF b hb), ar, sF, fun ho k' l' xs' Fn cc ow' nd' fn => ?_⟩
  have an : a ∉ Fn := fun z => (fn a z).elim (List.nodup_cons.mp nsub).1 aF
  obtain ⟨F', S4, f4, ex4, f5⟩ := go ho k' l' xs' F Fn cc (Owns.mono (Ex.refl _) ow' fun b hb o q => by rw [upd_ne (fun z => an (by rw [← z]; exact hb))]; exact q) nd' an fn dF oF
  have lr : r < env2.length := (List.getElem?_eq_some_iff.mp e3).1
  refine ⟨F', ⟨T2.modify rc ar f4 fF, S4, fun i hi => ?_, fun _ _ => rfl⟩, ?_⟩
  · rw [List.getElem?_set_ne (fun z : r = i => hi (by rw [← z]; exact rc))]
    exact en i hi
  · refine ⟨?_, f5⟩
    rcases S4.slot r _ (List.getElem?_set_self lr) with z | ⟨v, h1, h2⟩
    · exfalso
      cases p with
      | nil => cases z
      | cons j p =>
        obtain ⟨o1, k1, l1, a1, xs1, F1, F2, F3, x, d', rfl, _, _, _, _, _, e7, _⟩ := at2
        have z' : (match l1[j]? with | some d => D.con o1 k1 (l1.set j (setP p d (.con true k' l'))) | none => .con o1 k1 l1) = .unk := z
        rw [e7] at z'; cases z'
    · rw [e2] at h1; cases h1
      rw [if_pos rfl] at h2; exact h2
theorem simS_app (hp : SimPl G W r tp fp) (he : SimF G W μ te fe) (hr : r ∉ μ) (hμ : ∀ i ∈ μ, i ∈ chg) (rc : r ∈ chg) : SimS G W rea chg (tDrop (tBM G.K "list" rAppend tp (tCons te tNil))) (sApp r fp fe) := ⟨fun B H env σ φ En S hn hb hc hrt hx hst => by
  refine hp B H env σ φ _ S (fun p hp' d0 v0 w B1 H1 g1 e1 e2 at1 => ?_) (fun e he cls dx B' H' rx => hx e env (by show RPs (fp env) _ _ = _; rw [he]; rfl) cls dx σ B' H' φ (rx.rxF (μ := chg) S).rsX) (fun z => hst (by show RPs (fp env) _ _ = _; rw [z]; rfl))
  have E0 : sApp r fp fe env = if okL (atP r env p) = true then REs (fe env) fun d env1 => oFl (updP r p (appD d) env1) else .stk := by show RPs (fp env) _ _ = _; rw [hp']; rfl
  by_cases ok : okL (atP r env p) = true
  case neg => rw [if_neg ok] at E0; exact absurd E0 hst
  have E1 := E0.trans (if_pos ok)
  have S1 := S.grow g1
  obtain ⟨dp, Fp, s1, s2, s3⟩ := at1.sub
  obtain ⟨o, l0, ok'⟩ := okL_some ok
  have : dp = .con o .lst l0 := by
    unfold atP at ok'; rw [e1] at ok'
    have ok2 : getP p d0 = some (.con o .lst l0) := ok'
    rw [s1] at ok2; exact Option.some.inj ok2
  subst this
  refine ⟨lst_ty g1.bh s2, ?_⟩
  refine he B1 H1 env σ φ _ S1 (fun d env2 hd v B2 H2 φ2 F r2 => ?_) (fun e env' he' cls dx B' H' φ' rx => hx e env' (by rw [E1, he']; rfl) cls dx σ B' H' φ' ⟨⟨(Tr.of_gr g1).trans (rx.tr.mono hμ), rx.st, fun i hi => rx.env i fun z => hi (hμ i z), fun _ _ => rfl⟩, rx.is⟩) (fun z => hst (by rw [E1, z]; rfl))
  have E2 : sApp r fp fe env = oFl (updP r p (appD d) env2) := by rw [E1, hd]; rfl
  cases q : updP r p (appD d) env2 with
  | none => exact absurd (by rw [E2, q]; rfl) hst
  | some envE =>
  obtain ⟨at2, e3, S3, T3⟩ := at1.past S1 e1 e2 hr r2.tr r2.st r2.env
  obtain ⟨dq, x, y, u1, u2, u3, u4⟩ := updP_some q
  rw [e3] at u1; cases u1
  rw [s1] at u2; cases u2
  cases o with
  | false => cases u3
  | true =>
  have u3' : (if l0.length < sizeLine then some (DP.D.own (l0 ++ [d])) else none) = some y := u3
  split at u3'
  case isFalse => cases u3'
  rename_i hlen
  cases u3'
  have dF : ∀ b ∈ F, ∀ i, b ∉ (if i = r then φ r else φ2 i) := fun b hb i => by
    split
    · intro z
      rcases r2.fr b hb with y | ⟨j, hj, y⟩
      · obtain ⟨o, y2⟩ := S1.dom r b z; rw [y] at y2; cases y2
      · exact S1.dj j r (fun e => hr (by rw [← e]; exact hj)) b y z
    · exact r2.dj b hb i
  obtain ⟨a, xs, Fs, rfl, c, ow, n1, n2, n3, n4, _, _, go⟩ := store_end (rea := rea) rc (φs := fun j => if j = r then φ r else φ2 j) ((Tr.of_gr g1).trans (T3.mono hμ)) S3 (fun i hi => r2.env i fun z => hi (hμ i z)) e3 e2 (by rw [if_pos rfl]; exact at2) s1 dF r2.out (fun b hb => (Tr.of_gr (μ := chg) g1).back ((r2.fr b hb).imp id fun ⟨j, hj, z⟩ => ⟨j, hμ j hj, z⟩))
  obtain ⟨F', rs, _⟩ := go (.lst (xs ++ [v])) .lst (l0 ++ [d]) (xs ++ [v]) (Fs ++ F) upd_same (Owns.append ow (Owns.one r2.ow)) (List.nodup_append.mpr ⟨n3, r2.nd, fun b hb c hc z => n4 b hb (by rw [z]; exact hc)⟩) (fun b hb => List.mem_append.mp hb)
  exact ⟨a, xs, v, rfl, rfl, c, by rw [← ow.length]; exact hlen, hn envE (by rw [E2, q]; rfl) σ B2 _ _ (by rw [u4]; exact rs)⟩⟩
/-- o[i] = e -/
theorem simS_setIx (he : SimF G W chg te fe) (hp : SimPl G W r tp fp) (hi : SimF G W μ ti fi) (hr : r ∉ μ) (hμ : ∀ i ∈ μ, i ∈ chg) (rc : r ∈ chg) : SimS G W rea chg (tAsg te (gSub tp ti rSetL)) (sSetIx r fe fp fi) := ⟨fun B H env σ φ En S hn hb hc hrt hx hst => by
  refine he B H env σ φ _ S (fun d env1 hd v B1 H1 φ1 F r1 => ?_) (fun e env1 e1 cls dx B1 H1 φ1 rx => hx e env1 (by show REs (fe env) _ = _; rw [e1]; rfl) cls dx σ B1 H1 φ1 rx.rsX) (fun z => hst (by show REs (fe env) _ = _; rw [z]; rfl))
  have E1 : sSetIx r fe fp fi env = RPs (fp env1) env1 fun p => REs (fi env1) fun x env2 => oFl (updP r p (setD x d) env2) := by show REs (fe env) _ = _; rw [hd]; rfl
  refine hp B1 H1 env1 σ φ1 _ r1.st (fun p hp' d0 v0 w B2 H2 g2 e1 e2 at1 => ?_) (fun e he' cls dx B' H' rx => hx e env1 (by rw [E1, he']; rfl) cls dx σ B' H' φ1 (RsX.pre r1.rsS (rx.rxF (μ := chg) r1.st).rsX)) (fun z => hst (by rw [E1, z]; rfl))
  have E2 : sSetIx r fe fp fi env = REs (fi env1) fun x env2 => oFl (updP r p (setD x d) env2) := by rw [E1, hp']; rfl
  have S2 := r1.st.grow g2
  refine hi B2 H2 env1 σ φ1 _ S2 (fun x env3 hx' u B3 H3 φ3 F3 r3 => ?_) (fun e env' he' cls dx B' H' φ' rx => hx e env' (by rw [E2, he']; rfl) cls dx σ B' H' φ' ⟨⟨(r1.tr.trans (.of_gr g2)).trans (rx.tr.mono hμ), rx.st, fun i hi => (rx.env i fun z => hi (hμ i z)).trans (r1.env i hi), fun _ _ => rfl⟩, rx.is⟩) (fun z => hst (by rw [E2, z]; rfl))
  have E3 : sSetIx r fe fp fi env = oFl (updP r p (setD x d) env3) := by rw [E2, hx']; rfl
  cases q : updP r p (setD x d) env3 with
  | none => exact absurd (by rw [E3, q]; rfl) hst
  | some envE =>
  obtain ⟨at2, e3, S3, T3⟩ := at1.past S2 e1 e2 hr r3.tr r3.st r3.env
  obtain ⟨dp, Fp, s1, s2, s3⟩ := at2.sub
  obtain ⟨dq, y, z, u1, u2, u3, u4⟩ := updP_some q
  rw [e3] at u1; cases u1
  have sh : ∃ l0 i j, y = .con true .lst l0 ∧ x = .int i ∧ ixN l0.length i = some j ∧ z = .own (l0.set j d) := by
    unfold setD at u3
    split at u3
    · rename_i l0
      split at u3
      · rename_i i
        simp only [Option.map_eq_some_iff] at u3
        obtain ⟨j, h1, h2⟩ := u3
        exact ⟨l0, i, j, rfl, rfl, h1, h2.symm⟩
      · cases u3
    · cases u3
  obtain ⟨l0, i, j, rfl, rfl, hj, rfl⟩ := sh
  obtain ⟨rfl, _⟩ := r3.ow
  have dom1 := r1.ow.dom
  have T12 : Tr chg φ1 B1 H1 B3 H3 φ3 := (Tr.of_gr g2).trans (r3.tr.mono hμ)
  have own1 : Own G B3 H3 d v F := T12.own r1.ow r1.dj
  have dj3 : ∀ b ∈ F, ∀ i, b ∉ φ3 i := T12.dj dom1 r1.dj
  have out3 : ∀ b ∈ F, B3 b = none := T12.out r1.out dom1 r1.dj
  have T13 : Tr chg φ1 B1 H1 B3 H3 (fun j => if j = r then φ1 r else φ3 j) := (Tr.of_gr g2).trans (T3.mono hμ)
  have T03 := r1.tr.trans T13
  have dF : ∀ b ∈ F, ∀ i, b ∉ (if i = r then φ1 r else φ3 i) := fun b hb i => by
    split
    · exact r1.dj b hb r
    · exact dj3 b hb i
  obtain ⟨a, xs, Fs, rfl, c, ow, n1, n2, n3, n4, _, _, go⟩ := store_end (rea := rea) (env := env) (F := F) rc T03 S3 (fun i hi => (r3.env i fun z => hi (hμ i z)).trans (r1.env i hi)) e3 e2 (by rw [if_pos rfl]; exact at2) u2 dF out3 r1.fr
  have hjl : j < l0.length := (ixN_seq hj).2.1
  obtain ⟨Fn, o1, o2, o3⟩ := ow.set (i := j) own1 hjl n3 r1.nd (fun b hb hc => n4 b hc hb)
  obtain ⟨F', rs, _⟩ := go (.lst (xs.set j v)) .lst (l0.set j d) (xs.set j v) Fn upd_same o1 o3 o2
  exact ⟨a, xs, i, j, rfl, rfl, c, by rw [← ow.length]; exact hj, hn envE (by rw [E3, q]; rfl) σ B3 _ _ (by rw [u4]; exact rs)⟩⟩
/-- o.pop(i) -/
def popD (x : D) : D → Option (D × D)
  | .con true .lst l => match x with
    | .int i => if -(2 ^ 63) ≤ i ∧ i < 2 ^ 63 then (ixN l.length i).bind fun j => l[j]?.map fun d => (d, .own (l.eraseIdx j)) else none
    | _ => none
  | _ => none
def popL : D → Option (D × D)
  | .con true .lst l => l[l.length - 1]?.map fun d => (d, .own (l.eraseIdx (l.length - 1)))
  | _ => none
def updQ (r : Nat) (p : List Nat) (g : D → Option (D × D)) (env : Env) : RE D := match env[r]?.bind fun d => (getP p d).bind fun x => (g x).map fun y => (y.1, env.set r (setP p d y.2)) with
  | some y => .ok y.1 y.2
  | none => .stk
theorem updQ_ok {r : Nat} {p : List Nat} {g : D → Option (D × D)} {env env' : Env} {e : D} (h : updQ r p g env = .ok e env') : ∃ d x y, env[r]? = some d ∧ getP p d = some x ∧ g x = some (e, y) ∧ env' = env.set r (setP p d y) := by
  unfold updQ at h
  split at h
  · rename_i z hz
    simp only [Option.bind_eq_some_iff, Option.map_eq_some_iff] at hz
    obtain ⟨d, h1, x, h2, y, h3, rfl⟩ := hz
    cases h
    exact ⟨d, x, y.2, h1, h2, h3, rfl⟩
  · cases h
theorem updQ_noexc {r : Nat} {p : List Nat} {g : D → Option (D × D)} {env env' : Env} {e : Exc} : updQ r p g env ≠ .exc e env' := by unfold updQ; split <;> exact fun h => nomatch h
def RPe (x : R (List Nat)) (env : Env) (k : List Nat → RE D) : RE D := match x with
  | .ok p => k p
  | .exc e => .exc e env
  | .stk => .stk
@[simp] theorem RPe_ok (p : List Nat) (env : Env) (k : List Nat → RE D) : RPe (.ok p) env k = k p := rfl
@[simp] theorem RPe_exc (e : Exc) (env : Env) (k : List Nat → RE D) : RPe (.exc e) env k = .exc e env := rfl
@[simp] theorem RPe_stk (env : Env) (k : List Nat → RE D) : RPe .stk env k = .stk := rfl
def fPopAt (r : Nat) (fp : Env → R (List Nat)) (fi : Ef D) : Ef D := fun env => RPe (fp env) env fun p => if okL (atP r env p) = true then (fi env).bind fun x env1 => updQ r p (popD x) env1 else .stk
def fPop (r : Nat) (fp : Env → R (List Nat)) : Ef D := fun env => RPe (fp env) env fun p => if okL (atP r env p) = true then updQ r p popL env else .stk
theorem Owns.erase {B H : Hp} {l : List D} {xs : List V} {F : List Addr} {j : Nat} {d : D} (h : Owns G B H l xs F) (e : l[j]? = some d) : ∃ x F1 F2 F3, xs[j]? = some x ∧ F = F1 ++ (F2 ++ F3) ∧ Own G B H d x F2 ∧ Owns G B H (l.eraseIdx j) (xs.eraseIdx j) (F1 ++ F3) := by
  obtain ⟨x, F1, F2, F3, q1, q2, q3, q4, q5⟩ := h.split e
  refine ⟨x, F1, F2, F3, q1, q2, q4, ?_⟩
  rw [List.eraseIdx_eq_take_drop_succ, List.eraseIdx_eq_take_drop_succ]
  exact q3.append q5
/-- what both pops come to -/
theorem pop_end {B H B2 H2 : Hp} {env env2 envE : Env} {σ : L2.St} {φ φs : Nat → List Addr} {p : List Nat} {d0 : D} {v0 w : V} {l0 : List D} {e : D} {j : Nat} (rc : r ∈ chg) (T2 : Tr chg φ B H B2 H2 φs) (S3 : Sta G B2 H2 env2 σ φs) (en : ∀ i, i ∉ chg → env2[i]? = env[i]?)
    (e3 : env2[r]? = some d0) (e2 : σ[r]? = some (some v0)) (at2 : AtO G B2 H2 p d0 v0 (φs r) w) (s1 : getP p d0 = some (.con true .lst l0)) (hj : l0[j]? = some e) (u4 : envE = env2.set r (setP p d0 (.own (l0.eraseIdx j)))) :
    ∃ a xs x, w = .ref a ∧ H2 a = some (.lst xs) ∧ xs.length = l0.length ∧ xs[j]? = some x ∧ ∃ φ' F, RsF G chg φ B H env σ e envE x B2 (upd H2 a (.lst (xs.eraseIdx j))) φ' F := by
  obtain ⟨a, xs, Fs, rfl, c, ow, n1, n2, n3, n4, ar, sF, go⟩ := store_end (rea := []) (env := env) (F := []) rc T2 S3 en e3 e2 at2 s1 (fun _ h => nomatch h) (fun _ h => nomatch h) (fun _ h => nomatch h)
  obtain ⟨x, F1, F2, F3, q1, q2, q3, q4⟩ := ow.erase hj
  have c' : H2 a = some (.lst xs) := c
  subst q2
  obtain ⟨m1, m23, m123⟩ := List.nodup_append.mp n3
  obtain ⟨m2, m3, m23'⟩ := List.nodup_append.mp m23
  have in2 : ∀ b ∈ F2, b ∈ F1 ++ (F2 ++ F3) := fun b hb => List.mem_append_right _ (List.mem_append_left _ hb)
  have in13 : ∀ b ∈ F1 ++ F3, b ∈ F1 ++ (F2 ++ F3) := fun b hb => (List.mem_append.mp hb).elim (fun z => List.mem_append_left _ z) fun z => List.mem_append_right _ (List.mem_append_right _ z)
  have n13 : ∀ b ∈ F2, b ∉ F1 ++ F3 := fun b hb hc => (List.mem_append.mp hc).elim (fun z => m123 b z b (List.mem_append_left _ hb) rfl) fun z => m23' b hb b z rfl
  obtain ⟨F', rs, oE, f5⟩ := go (.lst (xs.eraseIdx j)) .lst (l0.eraseIdx j) (xs.eraseIdx j) (F1 ++ F3) upd_same q4 (List.nodup_append.mpr ⟨m1, m3, fun b hb c hc z => m123 b hb c (List.mem_append_right _ hc) z⟩) (fun b hb => .inl (in13 b hb))
  refine ⟨a, xs, x, rfl, c', ow.length.symm, q1, _, F2, ⟨rs.tr, by rw [u4]; exact rs.st, by rw [u4]; exact rs.env, Own.mono (Ex.refl _) q3 (fun b hb o q => by rw [upd_ne (fun z => n1 (by rw [← z]; exact in2 b hb))]; exact q), m2, fun b hb => S3.out r b (sF b (in2 b hb)), fun b hb i => ?_, fun b hb => T2.fr r rc b (sF b (in2 b hb))⟩⟩
  intro hc
  have hc' : b ∈ (if i = r then F' else φs i) := hc
  split at hc'
  · exact n13 b hb (f5 b hc' (in2 b hb))
  · rename_i hi
    exact S3.dj r i (fun z => hi z.symm) b (sF b (in2 b hb)) hc'
theorem dropLast_erase (xs : List V) (h : 0 < xs.length) : xs.dropLast = xs.eraseIdx (xs.length - 1) := by
  rw [List.eraseIdx_eq_take_drop_succ, List.dropLast_eq_take, List.drop_eq_nil_of_le (by omega), List.append_nil]
theorem popD_some {x : D} {y : D} {e z : D} (h : popD x y = some (e, z)) : ∃ l i j, y = .con true .lst l ∧ x = .int i ∧ -(2 ^ 63) ≤ i ∧ i < 2 ^ 63 ∧ ixN l.length i = some j ∧ l[j]? = some e ∧ z = .own (l.eraseIdx j) := by
  unfold popD at h
  split at h
  · rename_i l
    split at h
    · rename_i i
      split at h
      · rename_i c
        simp only [Option.bind_eq_some_iff, Option.map_eq_some_iff] at h
        obtain ⟨j, h1, d, h2, h3⟩ := h
        cases h3
        exact ⟨l, i, j, rfl, rfl, c.1, c.2, h1, h2, rfl⟩
      · cases h
    · cases h
  · cases h
theorem simF_popAt (hp : SimPl G W r tp fp) (hi : SimF G W μ ti fi) (hr : r ∉ μ) (hμ : ∀ i ∈ μ, i ∈ chg) (rc : r ∈ chg) : SimF G W chg (tBM G.K "list" rPopAt tp (tCons ti tNil)) (fPopAt r fp fi) := fun B H env σ φ Q S hok hex hst => by
  refine hp B H env σ φ _ S (fun p hp' d0 v0 w B1 H1 g1 e1 e2 at1 => ?_) (fun e he cls dx B' H' rx => hex e env (by show RPe (fp env) _ _ = _; rw [he]; rfl) cls dx B' H' φ (rx.rxF S)) (fun z => hst (by show RPe (fp env) _ _ = _; rw [z]; rfl))
  have E0 : fPopAt r fp fi env = if okL (atP r env p) = true then (fi env).bind fun x env1 => updQ r p (popD x) env1 else .stk := by show RPe (fp env) _ _ = _; rw [hp']; rfl
  by_cases ok : okL (atP r env p) = true
  case neg => rw [if_neg ok] at E0; exact absurd E0 hst
  have E1 := E0.trans (if_pos ok)
  have S1 := S.grow g1
  obtain ⟨dp, Fp, s1, s2, s3⟩ := at1.sub
  obtain ⟨o, l0, ok'⟩ := okL_some ok
  have : dp = .con o .lst l0 := by
    unfold atP at ok'; rw [e1] at ok'
    have ok2 : getP p d0 = some (.con o .lst l0) := ok'
    rw [s1] at ok2; exact Option.some.inj ok2
  subst this
  refine ⟨lst_ty g1.bh s2, ?_⟩
  refine hi B1 H1 env σ φ _ S1 (fun d env2 hd v B2 H2 φ2 F r2 => ?_) (fun e env' he' cls dx B' H' φ' rx => hex e env' (by rw [E1, he']; rfl) cls dx B' H' φ' ⟨(Tr.of_gr g1).trans (rx.tr.mono hμ), rx.st, fun i hi => rx.env i fun z => hi (hμ i z), rx.is⟩) (fun z => hst (by rw [E1, z]; rfl))
  have E2 : fPopAt r fp fi env = updQ r p (popD d) env2 := by rw [E1, hd]; rfl
  cases q : updQ r p (popD d) env2 with
  | stk => exact absurd (by rw [E2, q]) hst
  | exc e en => exact absurd q updQ_noexc
  | ok y envE =>
  obtain ⟨at2, e3, S3, T3⟩ := at1.past S1 e1 e2 hr r2.tr r2.st r2.env
  obtain ⟨dq, x, z, u1, u2, u3, u4⟩ := updQ_ok q
  rw [e3] at u1; cases u1
  obtain ⟨l1, i, j, rfl, rfl, c1, c2, hj, hl, rfl⟩ := popD_some u3
  obtain ⟨rfl, _⟩ := r2.ow
  obtain ⟨a, xs, y', rfl, h1, h2, h3, φ', F', rs⟩ := pop_end (env := env) (φ := φ) (B := B) (H := H) rc (φs := fun j => if j = r then φ r else φ2 j) ((Tr.of_gr g1).trans (T3.mono hμ)) S3 (fun i hi => r2.env i fun z => hi (hμ i z)) e3 e2 (by rw [if_pos rfl]; exact at2) u2 hl u4
  exact ⟨a, xs, i, j, y', rfl, rfl, h1, c1, c2, (ixN_seq (by rw [h2]; exact hj)).1, h3, hok y envE (by rw [E2, q]) y' B2 _ φ' F' rs⟩
theorem simF_pop (hp : SimPl G W r tp fp) (rc : r ∈ chg) : SimF G W chg (tBM0 G.K "list" rPop tp) (fPop r fp) := fun B H env σ φ Q S hok hex hst => by
  refine hp B H env σ φ _ S (fun p hp' d0 v0 w B1 H1 g1 e1 e2 at1 => ?_) (fun e he cls dx B' H' rx => hex e env (by show RPe (fp env) _ _ = _; rw [he]; rfl) cls dx B' H' φ (rx.rxF S)) (fun z => hst (by show RPe (fp env) _ _ = _; rw [z]; rfl))
  have E0 : fPop r fp env = if okL (atP r env p) = true then updQ r p popL env else .stk := by show RPe (fp env) _ _ = _; rw [hp']; rfl
  by_cases ok : okL (atP r env p) = true
  case neg => rw [if_neg ok] at E0; exact absurd E0 hst
  have E1 := E0.trans (if_pos ok)
  have S1 := S.grow g1
  obtain ⟨dp, Fp, s1, s2, s3⟩ := at1.sub
  obtain ⟨o, l0, ok'⟩ := okL_some ok
  have : dp = .con o .lst l0 := by
    unfold atP at ok'; rw [e1] at ok'
    have ok2 : getP p d0 = some (.con o .lst l0) := ok'
    rw [s1] at ok2; exact Option.some.inj ok2
  subst this
  refine ⟨lst_ty g1.bh s2, ?_⟩
  cases q : updQ r p popL env with
  | stk => exact absurd (by rw [E1, q]) hst
  | exc e en => exact absurd q updQ_noexc
  | ok y envE =>
  obtain ⟨dq, x, z, u1, u2, u3, u4⟩ := updQ_ok q
  rw [e1] at u1; cases u1
  have sh : ∃ l1, x = .con true .lst l1 ∧ l1[l1.length - 1]? = some y ∧ z = .own (l1.eraseIdx (l1.length - 1)) := by
    unfold popL at u3
    split at u3
    · rename_i l1
      simp only [Option.map_eq_some_iff] at u3
      obtain ⟨d, h1, h2⟩ := u3
      cases h2
      exact ⟨l1, rfl, h1, rfl⟩
    · cases u3
  obtain ⟨l1, rfl, hl, rfl⟩ := sh
  obtain ⟨a, xs, y', rfl, h1, h2, h3, φ', F', rs⟩ := pop_end (env := env) (φ := φ) (B := B) (H := H) rc (φs := φ) (Tr.of_gr g1) S1 (fun i hi => rfl) e1 e2 at1 u2 hl u4
  have pos : 0 < xs.length := by
    have := (List.getElem?_eq_some_iff.mp hl).1
    omega
  refine ⟨a, xs, y', rfl, rfl, h1, by rw [h2]; exact h3, ?_⟩
  rw [dropLast_erase xs pos, h2]
  exact hok y envE (by rw [E1, q]) y' B1 _ φ' F' rs
end
end DP


set_option Elab.async false
set_option linter.all false
set_option maxRecDepth 100000
set_option maxHeartbeats 4000000
namespace DP
open PySem L2 Evl

/-! ### slices -/
def cutD (l : List D) (lo hi : Option Int) : List D := (l.drop (HT.sIx l.length 0 lo)).take (HT.sIx l.length l.length hi - HT.sIx l.length 0 lo)
def pSl (x : D) (lo hi : Option Int) : R D := match x with
  | .con _ .lst l => if shds l = true then .ok (.own (cutD l lo hi)) else .stk
  | .con _ .kls l => if shds l = true then .ok (.own (cutD l lo hi)) else .stk
  | .con false .tup l => if shds l = true then .ok (.tup (cutD l lo hi)) else .stk
  | .str z => if z.length ≤ sizeLine then .ok (.str (cutS z lo hi)) else .stk
  | _ => .stk
theorem pSl_noexc {x : D} {lo hi : Option Int} {e : Exc} : pSl x lo hi ≠ .exc e := by
  unfold pSl; split <;> (try split) <;> exact fun h => nomatch h
def SimO (G : Gx) (W : WX) (t : TO) (f : Env → R (Option Int)) : Prop := ∀ B H env σ φ Q, Sta G B H env σ φ →
  (∀ o, f env = .ok o → ∀ B' H', Gr B H B' H' → Q o H') →
  (∀ e, f env = .exc e → ∀ cls dx B' H', Rx G B H B' H' e cls dx → W cls dx σ H') →
  f env ≠ .stk → t σ H Q
def oNone : Env → R (Option Int) := fun _ => .ok none
def toIntO : D → R (Option Int)
  | .int i => .ok (some i)
  | _ => .stk
def oSome (f : Env → R D) : Env → R (Option Int) := fun env => f env >>= toIntO
def eSl (f : Env → R D) (g h : Env → R (Option Int)) : Env → R D := fun env => f env >>= fun x => g env >>= fun lo => h env >>= fun hi => pSl x lo hi
section
variable {G : Gx} {W : WX} {m m1 m2 : Option Nat} {t ta tb tc : TE} {fa fb fc : Env → R D} {tl th : TO} {fl fh : Env → R (Option Int)}
theorem simO_none : SimO G W tNoPart oNone := fun B H env σ φ Q S hok hex hst => hok none rfl B H (Gr.refl S.ex)
theorem simO_some (h : Sim G W m ta fa) : SimO G W (tPart ta) (oSome fa) := fun B H env σ φ Q S hok hex hst => by
  refine h B H env σ φ _ S (fun d hd v B1 H1 F r => ?_) (fun e he cls dx B' H' rx => hex e (by show (fa env >>= _) = _; rw [he]; rfl) cls dx B' H' rx) (bind_stk hst)
  have E : oSome fa env = toIntO d := by show (fa env >>= _) = _; rw [hd]; rfl
  cases d with
  | int i => exact ⟨i, r.ow.1, hok (some i) E B1 H1 r.gr⟩
  | _ => exact absurd E hst
theorem Owns.cut {B H : Hp} {l : List D} {xs : List V} (h : Owns G B H l xs []) (lo hi : Option Int) : Owns G B H (cutD l lo hi) (cutV xs lo hi) [] := by
  unfold cutD cutV
  rw [← h.length]
  obtain ⟨F1, h1, s1⟩ := h.drop (HT.sIx l.length 0 lo)
  rw [List.sublist_nil.mp s1] at h1
  obtain ⟨F2, h2, s2⟩ := h1.take (HT.sIx l.length l.length hi - HT.sIx l.length 0 lo)
  rw [List.sublist_nil.mp s2] at h2
  exact h2
theorem cutV_whole {xs : List V} {lo hi : Option Int} (h : HT.sIx xs.length 0 lo = 0 ∧ HT.sIx xs.length xs.length hi = xs.length) : cutV xs lo hi = xs := by
  unfold cutV; rw [h.1, h.2]; simp
theorem cutD_whole {l : List D} {lo hi : Option Int} (h : HT.sIx l.length 0 lo = 0 ∧ HT.sIx l.length l.length hi = l.length) : cutD l lo hi = l := by
  unfold cutD; rw [h.1, h.2]; simp
def rSlD (K : PySem.W.Frag) : V → Option Int → Option Int → Hp → VK → Prop := fun x lo hi H Q => rSlL K x lo hi H Q ∨ (fun x lo hi H Q => rSlA K x lo hi H Q ∨ rSlS x lo hi H Q) x lo hi H Q
theorem sl_D {X : Cx} : SlR X (rSlD X.K) := (sl_list (X := X)).or ((sl_tupA (X := X)).or sl_str)
theorem sim_sl (h : Sim G W m1 ta fa) (hl : SimO G W tl fl) (hh : SimO G W th fh) : Sim G W m (tSl (rSlD G.K) ta tl th) (eSl fa fl fh) := fun B H env σ φ Q S hok hex hst => by
  refine h B H env σ φ _ S (fun x hx v B1 H1 F r1 => ?_) (fun e he cls dx B' H' rx => hex e (by show (fa env >>= _) = _; rw [he]; rfl) cls dx B' H' rx) (bind_stk hst)
  have E1 : eSl fa fl fh env = (fl env >>= fun lo => fh env >>= fun hi => pSl x lo hi) := by show (fa env >>= _) = _; rw [hx]; rfl
  have hst1 := hst
  rw [E1] at hst1
  refine hl B1 H1 env σ φ _ (S.grow r1.gr) (fun lo hlo B2 H2 g2 => ?_) (fun e he cls dx B' H' rx => hex e (by rw [E1, he]; rfl) cls dx B' H' (rx.pre r1.gr)) (bind_stk hst1)
  have E2 : eSl fa fl fh env = (fh env >>= fun hi => pSl x lo hi) := by rw [E1, hlo]; rfl
  have hst2 := hst
  rw [E2] at hst2
  refine hh B2 H2 env σ φ _ (S.grow (r1.gr.trans g2)) (fun hi hhi B3 H3 g3 => ?_) (fun e he cls dx B' H' rx => hex e (by rw [E2, he]; rfl) cls dx B' H' (rx.pre (r1.gr.trans g2))) (bind_stk hst2)
  have E3 : eSl fa fl fh env = pSl x lo hi := by rw [E2, hhi]; rfl
  have g := (r1.gr.trans g2).trans g3
  have g' := g2.trans g3
  have ow : Own G B3 H3 x v F := Own.mono g'.bb r1.ow (fun a _ o => g'.hh a o)
  have hst3 : pSl x lo hi ≠ .stk := fun z => hst (E3.trans z)
  have newL : ∀ (l : List D) (xs : List V) (F' : List Addr) (p : Addr), Owns G B3 H3 l xs F' → shds l = true → pSl x lo hi = .ok (.own (cutD l lo hi)) → H3 p = none → Q (.ref p) (upd H3 p (.lst (cutV xs lo hi))) := fun l xs F' p q2 c e hp => by
    have z := q2.shd c
    subst z
    refine hok (.own (cutD l lo hi)) (E3.trans e) (.ref p) B3 _ [p] ⟨g.trans (Gr.newO g.bh hp), ⟨p, cutV xs lo hi, [], rfl, (Owns.noF q2).cut lo hi, ⟨upd_same, _, upd_same⟩, rfl, fun z => nomatch z⟩, by simp, fun a ha => ?_, fun a ha => ?_⟩
    · rw [List.mem_singleton.mp ha]; exact none_back g.bh hp
    · rw [List.mem_singleton.mp ha]; exact .inl (none_back g.hh hp)
  match x, ow, E3, hst3, newL with
  | .con o .lst l, ow, E3, hst3, newL =>
    by_cases c : shds l = true
    · obtain ⟨a, xs, F', rfl, q2, q3, q4⟩ := ow.cell g.bh
      exact .inl ⟨a, xs, rfl, SqL.of q3, fun p hp => newL _ _ _ _ q2 c (if_pos c) hp⟩
    · exact absurd (if_neg c) hst3
  | .con o .kls l, ow, E3, hst3, newL =>
    by_cases c : shds l = true
    · obtain ⟨a, xs, F', rfl, q2, q3, q4⟩ := ow.cell g.bh
      exact .inl ⟨a, xs, rfl, q3, fun p hp => newL _ _ _ _ q2 c (if_pos c) hp⟩
    · exact absurd (if_neg c) hst3
  | .con false .tup l, ow, E3, hst3, newL =>
    by_cases c : shds l = true
    · have sd : DP.shd (.con false .tup l) = true := by simp only [DP.shd, Bool.not_false, Bool.true_and]; exact c
      have e0 : pSl (.con false .tup l) lo hi = .ok (.tup (cutD l lo hi)) := if_pos c
      have z := ow.shd sd
      subst z
      have ow0 := ow
      obtain ⟨a, xs, F', rfl, q2, q3, q4⟩ := ow.cell g.bh
      have z := q2.shd c
      subst z
      refine .inr (.inl ⟨a, xs, rfl, SqT.of q3, fun w => ?_, fun w p hp => ?_⟩)
      · have e1 : cutD l lo hi = l := cutD_whole (by rw [q2.length]; exact w)
        rw [e1] at e0
        exact hok _ (E3.trans e0) (.ref a) B3 H3 [] (.sh g ow0)
      · have gn := Gr.new (o := .tup (cutV xs lo hi)) g.bh hp
        exact hok _ (E3.trans e0) (.ref p) _ _ [] (.sh (g.trans gn) ⟨p, cutV xs lo hi, [], rfl, Owns.mono (H := H3) gn.bb (q2.cut lo hi) (fun _ h => nomatch h), upd_same, rfl, fun _ _ => rfl⟩)
    · exact absurd (if_neg c) hst3
  | .str z, ow, E3, hst3, newL =>
    by_cases c : z.length ≤ sizeLine
    · obtain ⟨rfl, _⟩ := ow
      exact .inr (.inr ⟨z, rfl, c, hok (.str (cutS z lo hi)) (E3.trans (if_pos c)) _ B3 H3 [] (.sh g ⟨rfl, rfl⟩)⟩)
    · exact absurd (if_neg c) hst3
  | .con true .tup l, _, _, hst3, _ => exact absurd rfl hst3
  | .con o (.dct ks) l, _, _, hst3, _ => exact absurd rfl hst3
  | .con o (.dtt ks) l, _, _, hst3, _ => exact absurd rfl hst3
  | .con o (.obj c ns) l, _, _, hst3, _ => exact absurd rfl hst3
  | .unk, _, _, hst3, _ => exact absurd rfl hst3
  | .non, _, _, hst3, _ => exact absurd rfl hst3
  | .bl _, _, _, hst3, _ => exact absurd rfl hst3
  | .int _, _, _, hst3, _ => exact absurd rfl hst3
  | .rf _, _, _, hst3, _ => exact absurd rfl hst3
/-! ### one-place operators -/
def pNeg : D → R D
  | .int i => .ok (.int (-i))
  | _ => .stk
def eUn (g : D → R D) (f : Env → R D) : Env → R D := fun env => f env >>= g
theorem sim_neg (h : Sim G W m1 ta fa) : Sim G W m (tUn (rU fun i => .int (-i)) ta) (eUn pNeg fa) := fun B H env σ φ Q S hok hex hst => by
  refine h B H env σ φ _ S (fun d hd v B1 H1 F r => ?_) (fun e he cls dx B' H' rx => hex e (by show (fa env >>= _) = _; rw [he]; rfl) cls dx B' H' rx) (bind_stk hst)
  have E : eUn pNeg fa env = pNeg d := by show (fa env >>= _) = _; rw [hd]; rfl
  cases d with
  | int i => exact ⟨i, r.ow.1, hok (.int (-i)) E _ B1 H1 [] (.sh r.gr ⟨rfl, rfl⟩)⟩
  | _ => exact absurd E hst
end
end DP


set_option Elab.async false
set_option linter.all false
set_option maxRecDepth 100000
set_option maxHeartbeats 4000000
namespace DP
open PySem L2 Evl

/-! ### what a def promises -/
structure CTr (F : List Addr) (B H B' H' : Hp) : Prop where
  ex : Ex B' H'
  bb : Ex B B'
  keep : ∀ a o, H a = some o → a ∉ F → H' a = some o
  nw : ∀ a o, B' a = some o → B a = none → H a = none ∨ a ∈ F
structure CEnd (G : Gx) (F : List Addr) (B H : Hp) (d : D) (ds' : List D) (v : V) (vs : List V) (B' H' : Hp) (F1 F2 : List Addr) : Prop where
  tr : CTr F B H B' H'
  ow : Own G B' H' d v F1
  ows : Owns G B' H' ds' vs F2
  nd : (F1 ++ F2).Nodup
  out : ∀ a ∈ F1 ++ F2, B' a = none
  fr : ∀ a ∈ F1 ++ F2, H a = none ∨ a ∈ F
structure CExc (G : Gx) (F : List Addr) (B H : Hp) (e : Exc) (ds' : List D) (cls : Value) (dx : Option Addr) (vs : List V) (B' H' : Hp) (F2 : List Addr) : Prop where
  tr : CTr F B H B' H'
  is : ExcIs G B' H' e cls dx
  ows : Owns G B' H' ds' vs F2
  nd : F2.Nodup
  out : ∀ a ∈ F2, B' a = none
  fr : ∀ a ∈ F2, H a = none ∨ a ∈ F
def spF (G : Gx) (n : Nat) (f : List D → RE D) : Sp := fun vs H Q E => vs.length = n ∧ ∃ B ds F, Ex B H ∧ Owns G B H ds vs F ∧ F.Nodup ∧ (∀ a ∈ F, B a = none) ∧ f ds ≠ .stk ∧
  (∀ d ds', f ds = .ok d ds' → ∀ v B' H' F1 F2, CEnd G F B H d ds' v vs B' H' F1 F2 → Q v H') ∧ (∀ e ds', f ds = .exc e ds' → ∀ cls dx B' H' F2, CExc G F B H e ds' cls dx vs B' H' F2 → E cls dx H')

/-! ### its body -/
def argsAt (rea : List Nat) (env : Env) : Nat → Nat → List D
  | _, 0 => []
  | k, n + 1 => (if k ∈ rea then .unk else (env[k]?).getD .unk) :: argsAt rea env (k + 1) n
def mkF (N P : Nat) (rea : List Nat) (f : Env → Fl) (ds : List D) : RE D := match f (ds ++ List.replicate (N - P) .unk) with
  | .nx env => .ok .non (argsAt rea env 0 P)
  | .rt d env => .ok d (argsAt rea env 0 P)
  | .exc e env => .exc e (argsAt rea env 0 P)
  | _ => .stk
section
variable {G : Gx} {W : WX}
theorem sta_from {B H : Hp} (ex : Ex B H) : ∀ {ds : List D} {vs : List V} {F : List Addr} {k : Nat}, Owns G B H ds vs F → F.Nodup → (∀ a ∈ F, B a = none) →
    ∃ φ, Sta G B H (ds ++ List.replicate k .unk) (vs.map some ++ List.replicate k none) φ ∧ ∀ i, ∀ a ∈ φ i, a ∈ F
  | [], vs, F, k, h, nd, out => by
    obtain ⟨rfl, rfl⟩ := h
    refine ⟨fun _ => [], ⟨ex, by simp, fun i d e => .inl ?_, fun _ => .nil, fun _ _ _ _ h => (nomatch h), fun _ _ h => (nomatch h), fun _ _ h => (nomatch h)⟩, fun _ _ h => (nomatch h)⟩
    have e' : (List.replicate k D.unk)[i]? = some d := e
    rw [List.getElem?_replicate] at e'
    split at e' <;> cases e'
    rfl
  | d :: ds, vs, F, k, h, nd, out => by
    obtain ⟨x, xs, F1, F2, rfl, rfl, h1, h2⟩ := h
    obtain ⟨n1, n2, n3⟩ := List.nodup_append.mp nd
    obtain ⟨φ, S, sub⟩ := sta_from ex (k := k) h2 n2 (fun a ha => out a (List.mem_append_right _ ha))
    refine ⟨fun j => match j with | 0 => F1 | j + 1 => φ j, ⟨ex, by have := S.len; simp at this ⊢; omega, fun i e he => ?_, fun i => ?_, fun i j hij a ha hb => ?_, fun i a ha => ?_, fun i a ha => ?_⟩, fun i a ha => ?_⟩
    · cases i with
      | zero => simp at he; subst he; exact .inr ⟨x, rfl, h1⟩
      | succ i => exact S.slot i e (by simpa using he)
    · cases i with
      | zero => exact n1
      | succ i => exact S.nd i
    · cases i with
      | zero =>
        cases j with
        | zero => exact hij rfl
        | succ j => exact n3 a ha a (sub j a hb) rfl
      | succ i =>
        cases j with
        | zero => exact n3 a hb a (sub i a ha) rfl
        | succ j => exact S.dj i j (fun z => hij (by rw [z])) a ha hb
    · cases i with
      | zero => exact out a (List.mem_append_left _ ha)
      | succ i => exact S.out i a ha
    · cases i with
      | zero => exact h1.dom a ha
      | succ i => exact S.dom i a ha
    · cases i with
      | zero => exact List.mem_append_left _ ha
      | succ i => exact List.mem_append_right _ (sub i a ha)
theorem owns_from {B H : Hp} {env : Env} {σ σ0 : L2.St} {φ : Nat → List Addr} {rea : List Nat} (S : Sta G B H env σ φ) (hs : ∀ i, i ∉ rea → σ[i]? = σ0[i]?) : ∀ {vs : List V} {k : Nat}, (∀ i v, vs[i]? = some v → σ0[k + i]? = some (some v)) →
    ∃ F, Owns G B H (argsAt rea env k vs.length) vs F ∧ F.Nodup ∧ ∀ a ∈ F, ∃ i, k ≤ i ∧ a ∈ φ i
  | [], k, _ => ⟨[], Owns.nil, .nil, fun _ h => (nomatch h)⟩
  | v :: vs, k, h => by
    obtain ⟨F, h1, h2, h3⟩ := owns_from S hs (vs := vs) (k := k + 1) (fun i w e => by rw [show k + 1 + i = k + (i + 1) by omega]; exact h (i + 1) w (by simpa using e))
    have hv : σ0[k]? = some (some v) := h 0 v rfl
    have no : Own G B H .unk v [] := rfl
    by_cases q : k ∈ rea
    · refine ⟨[] ++ F, ?_, h2, fun a ha => let ⟨i, h, h'⟩ := h3 a ha; ⟨i, by omega, h'⟩⟩
      show Owns G B H ((if k ∈ rea then .unk else (env[k]?).getD .unk) :: _) _ _
      rw [if_pos q]; exact Owns.cons no h1
    · have e : ∃ F1, Own G B H ((env[k]?).getD .unk) v F1 ∧ F1.Nodup ∧ ∀ a ∈ F1, a ∈ φ k := by
        cases z : env[k]? with
        | none => exact ⟨[], rfl, .nil, fun _ h => (nomatch h)⟩
        | some d =>
          rcases S.slot k d z with hd | ⟨w, hw, ow⟩
          · rw [hd]; exact ⟨[], rfl, .nil, fun _ h => (nomatch h)⟩
          · rw [hs k q, hv] at hw; cases hw
            exact ⟨φ k, ow, S.nd k, fun _ h => h⟩
      obtain ⟨F1, e1, e2, e3⟩ := e
      refine ⟨F1 ++ F, ?_, List.nodup_append.mpr ⟨e2, h2, fun a ha b hb z => ?_⟩, fun a ha => ?_⟩
      · show Owns G B H ((if k ∈ rea then .unk else (env[k]?).getD .unk) :: _) _ _
        rw [if_neg q]; exact Owns.cons e1 h1
      · subst z
        obtain ⟨i, hi, z⟩ := h3 a hb
        exact S.dj k i (by omega) a (e3 a ha) z
      · rcases List.mem_append.mp ha with ha | ha
        · exact ⟨k, Nat.le_refl _, e3 a ha⟩
        · obtain ⟨i, hi, z⟩ := h3 a ha
          exact ⟨i, by omega, z⟩
theorem ctr_of {chg : List Nat} {φ φ' : Nat → List Addr} {B H B' H' : Hp} {F : List Addr} (sub : ∀ i, ∀ a ∈ φ i, a ∈ F) (ex : Ex B' H') (T : Tr chg φ B H B' H' φ') : CTr F B H B' H' :=
  ⟨ex, T.bb, fun a o h n => T.keep a o h fun i _ z => n (sub i a z), fun a o h1 h2 => (T.nw a o h1 h2).imp id fun ⟨i, _, z⟩ => sub i a z⟩
theorem φ_back {chg : List Nat} {φ φ' : Nat → List Addr} {B H B' H' : Hp} {F : List Addr} (sub : ∀ i, ∀ a ∈ φ i, a ∈ F) (T : Tr chg φ B H B' H' φ') (i : Nat) (a : Addr) (ha : a ∈ φ' i) : H a = none ∨ a ∈ F := by
  by_cases q : i ∈ chg
  · exact (T.fr i q a ha).imp id fun ⟨j, _, z⟩ => sub j a z
  · exact .inr (sub i a (T.same i q a ha))
/-- THE RULE for a def's body -/
theorem body_F {rea chg : List Nat} {ts : TS} {f : Env → Fl} {N P : Nat} {vs : List V} {H : Hp} {Q : VK} {E : XK} {names : List Str} (h : SimS G (fun cls dx _ H' => E cls dx H') rea chg ts f) (hN : names.length = N) (sp : spF G P (mkF N P rea f) vs H Q E) :
    ts { nx := fun _ H' => Q .non H', rt := Q } (L2.start names vs) H := by
  obtain ⟨hl, B, ds, F, ex, ow, nd, out, hst, hok, hex⟩ := sp
  obtain ⟨φ, S, sub⟩ := sta_from (k := N - P) ex ow nd out
  have e0 : L2.start names vs = vs.map some ++ List.replicate (N - P) none := by unfold L2.start; rw [hN, hl]
  rw [e0]
  have par : ∀ i v, vs[i]? = some v → (vs.map some ++ List.replicate (N - P) none)[0 + i]? = some (some v) := fun i v e => by
    rw [Nat.zero_add, List.getElem?_append_left (by rw [List.length_map]; exact (List.getElem?_eq_some_iff.mp e).1), List.getElem?_map, e]; rfl
  have M : mkF N P rea f ds = match f (ds ++ List.replicate (N - P) .unk) with
    | .nx env => .ok .non (argsAt rea env 0 P)
    | .rt d env => .ok d (argsAt rea env 0 P)
    | .exc e env => .exc e (argsAt rea env 0 P)
    | _ => .stk := rfl
  have stop : ∀ x, f (ds ++ List.replicate (N - P) .unk) = x → (match x with
    | .nx env => (RE.ok D.non (argsAt rea env 0 P) : RE D)
    | .rt d env => .ok d (argsAt rea env 0 P)
    | .exc e env => .exc e (argsAt rea env 0 P)
    | _ => .stk) = .stk → False := fun x e z => hst (by rw [M, e]; exact z)
  refine h.run B H _ _ φ _ S (fun env' he σ' B' H' φ' r => ?_) (fun env' he σ' B' H' φ' r => (stop _ he rfl).elim) (fun env' he σ' B' H' φ' r => (stop _ he rfl).elim) (fun d env' he v σ' B' H' φ' F1 r => ?_) (fun e env' he cls dx σ' B' H' φ' r => ?_) (fun z => stop _ z rfl)
  · obtain ⟨F2, o1, o2, o3⟩ := owns_from (vs := vs) (k := 0) r.st r.sig par
    rw [hl] at o1
    exact hok .non _ (by rw [M, he]) .non B' H' [] F2 ⟨ctr_of sub r.st.ex r.tr, ⟨rfl, rfl⟩, o1, o2, fun a ha => let ⟨i, _, z⟩ := o3 a ha; r.st.out i a z, fun a ha => let ⟨i, _, z⟩ := o3 a ha; φ_back sub r.tr i a z⟩
  · obtain ⟨F2, o1, o2, o3⟩ := owns_from (vs := vs) (k := 0) r.rs.st r.rs.sig par
    rw [hl] at o1
    refine hok d _ (by rw [M, he]) v B' H' F1 F2 ⟨ctr_of sub r.rs.st.ex r.rs.tr, r.ow, o1, List.nodup_append.mpr ⟨r.nd, o2, fun a ha b hb z => ?_⟩, fun a ha => ?_, fun a ha => ?_⟩
    · subst z
      obtain ⟨i, _, z⟩ := o3 a hb
      exact r.dj a ha i z
    · rcases List.mem_append.mp ha with ha | ha
      · exact r.out a ha
      · obtain ⟨i, _, z⟩ := o3 a ha; exact r.rs.st.out i a z
    · rcases List.mem_append.mp ha with ha | ha
      · exact (r.fr a ha).imp id fun ⟨j, _, z⟩ => sub j a z
      · obtain ⟨i, _, z⟩ := o3 a ha; exact φ_back sub r.rs.tr i a z
  · obtain ⟨F2, o1, o2, o3⟩ := owns_from (vs := vs) (k := 0) r.rs.st r.rs.sig par
    rw [hl] at o1
    exact hex e _ (by rw [M, he]) cls dx B' H' F2 ⟨ctr_of sub r.rs.st.ex r.rs.tr, r.is, o1, o2, fun a ha => let ⟨i, _, z⟩ := o3 a ha; r.rs.st.out i a z, fun a ha => let ⟨i, _, z⟩ := o3 a ha; φ_back sub r.rs.tr i a z⟩
theorem spF_len {n : Nat} {f : List D → RE D} {vs : List V} {H : Hp} {Q : VK} {E : XK} {ps : List Str} (hp : ps.length = n) (h : spF G n f vs H Q E) : vs.length = ps.length := h.1.trans hp.symm
/-! ### calls -/
def RE.dr {α : Type} : RE α → R α
  | .ok a _ => .ok a
  | .exc e _ => .exc e
  | .stk => .stk
@[simp] theorem RE.dr_ok {α : Type} (a : α) (env : Env) : (RE.ok a env).dr = .ok a := rfl
@[simp] theorem RE.dr_exc {α : Type} (e : Exc) (env : Env) : (RE.exc e env : RE α).dr = .exc e := rfl
@[simp] theorem RE.dr_stk {α : Type} : (RE.stk : RE α).dr = .stk := rfl
def apN (n : Nat) (f : List D → RE D) (ds : List D) : R D := if ds.length = n then (f ds).dr else .stk
/-- f(..), the arguments new or shared -/
def eCall (n : Nat) (f : List D → RE D) (fa : Env → R (List D)) : Env → R D := fun env => fa env >>= apN n f
theorem gr_call {B H B1 H1 B' H' : Hp} {F : List Addr} (g : Gr B H B1 H1) (fr : ∀ a ∈ F, H a = none) (c : CTr F B1 H1 B' H') : Gr B H B' H' where
  hh := fun a o h => c.keep a o (g.hh a o h) fun z => by rw [fr a z] at h; cases h
  bb := g.bb.trans c.bb
  bh := c.ex
  nw := fun a o h1 h2 => by
    cases q : B1 a with
    | some u => exact g.nw a u q h2
    | none => exact (c.nw a o h1 q).elim (none_back g.hh) (fr a)
theorem sim_call {n : Nat} {f : List D → RE D} {ta : TA} {fa : Env → R (List D)} (h : SimA G W ta fa) : Sim G W none (tCallSD (spF G n f) [] (WE W) ta) (eCall n f fa) := fun B H env σ φ Q S hok hex hst => by
  refine h B H env σ φ _ S (fun ds hd vs B1 H1 F r => ?_) (fun e he cls dx B' H' rx => hex e (by show (fa env >>= _) = _; rw [he]; rfl) cls dx B' H' rx) (bind_stk hst)
  have E : eCall n f fa env = apN n f ds := by show (fa env >>= _) = _; rw [hd]; rfl
  unfold apN at E
  by_cases hn : ds.length = n
  · rw [if_pos hn] at E
    rw [List.append_nil]
    refine ⟨r.ow.length.symm.trans hn, B1, ds, F, r.gr.bh, r.ow, r.nd, r.out, fun z => hst (by rw [E, z]; rfl), fun d ds' hd' v B' H' F1 F2 c => ?_, fun e ds' he' cls dx B' H' F2 c => ?_⟩
    · exact hok d (by rw [E, hd']; rfl) v B' H' F1 ⟨gr_call r.gr r.fr c.tr, c.ow, (List.nodup_append.mp c.nd).1, fun a ha => c.out a (List.mem_append_left _ ha), fun a ha => .inl ((c.fr a (List.mem_append_left _ ha)).elim (none_back r.gr.hh) (r.fr a))⟩
    · exact hex e (by rw [E, he']; rfl) cls dx B' H' ⟨gr_call r.gr r.fr c.tr, c.is.len, c.is.cls, c.is.dict⟩
  · rw [if_neg hn] at E; exact absurd E hst
/-- no arguments -/
def fCall (n : Nat) (f : List D → RE D) (fa : Ef (List D)) : Ef D := fun env => (fa env).bind fun ds env1 => (apN n f ds).ef env1
theorem Tr.call {chg : List Nat} {φ φ1 φ' : Nat → List Addr} {B H B1 H1 B' H' : Hp} {F : List Addr} (T : Tr chg φ B H B1 H1 φ1) (c : CTr F B1 H1 B' H') (fF : ∀ a ∈ F, H a = none ∨ ∃ j ∈ chg, a ∈ φ j) (h1 : ∀ j, j ∉ chg → ∀ a ∈ φ' j, a ∈ φ1 j) (h2 : ∀ j ∈ chg, ∀ a ∈ φ' j, a ∈ φ1 j ∨ H1 a = none ∨ a ∈ F) : Tr chg φ B H B' H' φ' where
  bb := T.bb.trans c.bb
  keep := fun a o h n => c.keep a o (T.keep a o h n) fun z => by
    rcases fF a z with y | ⟨j, hj, y⟩
    · rw [y] at h; cases h
    · exact n j hj y
  nw := fun a o q1 q2 => by
    cases q : B1 a with
    | some u => exact T.nw a u q q2
    | none =>
      rcases c.nw a o q1 q with z | z
      · exact T.back (.inl z)
      · exact fF a z
  same := fun j hj a ha => T.same j hj a (h1 j hj a ha)
  fr := fun j hj a ha => by
    rcases h2 j hj a ha with z | z | z
    · exact T.fr j hj a z
    · exact T.back (.inl z)
    · exact fF a z
theorem Sta.call {B H B' H' : Hp} {env : Env} {σ : L2.St} {φ : Nat → List Addr} {F : List Addr} (S : Sta G B H env σ φ) (c : CTr F B H B' H') (hF : ∀ a ∈ F, ∀ j, a ∉ φ j) : Sta G B' H' env σ φ where
  ex := c.ex
  len := S.len
  slot := fun i d e => (S.slot i d e).imp id fun ⟨v, h1, h2⟩ => ⟨v, h1, Own.mono c.bb h2 fun a ha o q => c.keep a o q fun z => hF a z i ha⟩
  nd := S.nd
  dj := S.dj
  out := fun i a ha => by
    cases q : B' a with
    | none => rfl
    | some o =>
      rcases c.nw a o q (S.out i a ha) with z | z
      · obtain ⟨u, y⟩ := S.dom i a ha; rw [z] at y; cases y
      · exact absurd ha (hF a z i)
  dom := fun i a ha => let ⟨o, q⟩ := S.dom i a ha; ⟨o, c.keep a o q fun z => hF a z i ha⟩
theorem fresh_apart {B H B' H' : Hp} {env : Env} {σ : L2.St} {φ : Nat → List Addr} {F F1 : List Addr} (S : Sta G B H env σ φ) (hF : ∀ a ∈ F, ∀ j, a ∉ φ j) (fr : ∀ a ∈ F1, H a = none ∨ a ∈ F) : ∀ a ∈ F1, ∀ j, a ∉ φ j := fun a ha j hj => by
  rcases fr a ha with z | z
  · obtain ⟨o, q⟩ := S.dom j a hj; rw [z] at q; cases q
  · exact hF a z j hj
theorem simF_call {n : Nat} {μ : List Nat} {f : List D → RE D} {ta : TA} {fa : Ef (List D)} (h : SimFA G W μ ta fa) : SimF G W μ (tCallSD (spF G n f) [] (WE W) ta) (fCall n f fa) := fun B H env σ φ Q S hok hex hst => by
  refine h B H env σ φ _ S (fun ds env1 hd vs B1 H1 φ1 F r => ?_) (fun e env' he cls dx B' H' φ' rx => hex e env' (by show (fa env).bind _ = _; rw [he]; rfl) cls dx B' H' φ' rx) (bindE_stk hst)
  have E : fCall n f fa env = (apN n f ds).ef env1 := by show (fa env).bind _ = _; rw [hd]; rfl
  unfold apN at E
  by_cases hn : ds.length = n
  · rw [if_pos hn] at E
    rw [List.append_nil]
    refine ⟨r.ow.length.symm.trans hn, B1, ds, F, r.st.ex, r.ow, r.nd, r.out, fun z => hst (by rw [E, z]; rfl), fun d ds' hd' v B' H' F1 F2 c => ?_, fun e ds' he' cls dx B' H' F2 c => ?_⟩
    · exact hok d env1 (by rw [E, hd']; rfl) v B' H' φ1 F1 ⟨r.tr.call c.tr r.fr (fun _ _ _ h => h) (fun _ _ _ h => .inl h), r.st.call c.tr r.dj, r.env, c.ow, (List.nodup_append.mp c.nd).1, fun a ha => c.out a (List.mem_append_left _ ha), fresh_apart (B' := B') (H' := H') r.st r.dj (fun a ha => c.fr a (List.mem_append_left _ ha)), fun a ha => by
        rcases c.fr a (List.mem_append_left _ ha) with z | z
        · exact r.tr.back (.inl z)
        · exact r.fr a z⟩
    · exact hex e env1 (by rw [E, he']; rfl) cls dx B' H' φ1 ⟨r.tr.call c.tr r.fr (fun _ _ _ h => h) (fun _ _ _ h => .inl h), r.st.call c.tr r.dj, r.env, c.is⟩
  · rw [if_neg hn] at E; exact absurd E hst
/-- f(x, ..), x the thing in slot r, which the call may change -/
def apM (r n : Nat) (f : List D → RE D) (d0 : D) (ds : List D) (env : Env) : RE D := if ds.length + 1 = n then match f (d0 :: ds) with
  | .ok d ds' => .ok d (env.set r (ds'.headD .unk))
  | .exc e ds' => .exc e (env.set r (ds'.headD .unk))
  | .stk => .stk else .stk
def fCallM (r n : Nat) (f : List D → RE D) (fa : Ef (List D)) : Ef D := fun env => match env[r]? with
  | some .unk => .stk
  | some d0 => (fa env).bind fun ds env1 => apM r n f d0 ds env1
  | none => .stk
theorem Sta.set0 {B H : Hp} {env : Env} {σ : L2.St} {φ : Nat → List Addr} {r : Nat} (S : Sta G B H env σ φ) : Sta G B H (env.set r .unk) σ (fun j => if j = r then [] else φ j) where
  ex := S.ex
  len := by rw [List.length_set]; exact S.len
  slot := fun j e h => by
    by_cases z : r = j
    · subst z
      by_cases hl : r < env.length
      · rw [List.getElem?_set_self hl] at h; cases h; exact .inl rfl
      · rw [List.getElem?_eq_none (by rw [List.length_set]; omega)] at h; cases h
    · rw [List.getElem?_set_ne z] at h
      rw [if_neg (Ne.symm z)]
      exact S.slot j e h
  nd := fun j => by
    show (if j = r then [] else φ j).Nodup
    split
    · exact .nil
    · exact S.nd j
  dj := fun j k hjk a ha hb => by
    have ha' : a ∈ (if j = r then [] else φ j) := ha
    have hb' : a ∈ (if k = r then [] else φ k) := hb
    split at ha'
    · cases ha'
    · split at hb'
      · cases hb'
      · exact S.dj j k hjk a ha' hb'
  out := fun j a ha => by
    have ha' : a ∈ (if j = r then [] else φ j) := ha
    split at ha'
    · cases ha'
    · exact S.out j a ha'
  dom := fun j a ha => by
    have ha' : a ∈ (if j = r then [] else φ j) := ha
    split at ha'
    · cases ha'
    · exact S.dom j a ha'
/-- behind a call that has changed the thing in slot r -/
theorem Sta.callM {B H B' H' : Hp} {env : Env} {σ : L2.St} {φ : Nat → List Addr} {F F2 : List Addr} {r : Nat} {d' : D} {v : V} (S : Sta G B H env σ φ) (c : CTr F B H B' H') (hF : ∀ a ∈ F, ∀ j, j ≠ r → a ∉ φ j) (es : σ[r]? = some (some v)) (o : Own G B' H' d' v F2) (nd : F2.Nodup) (out : ∀ a ∈ F2, B' a = none) (fr : ∀ a ∈ F2, H a = none ∨ a ∈ F) :
    Sta G B' H' (env.set r d') σ (fun j => if j = r then F2 else φ j) := by
  have S1 := (S.set0 (r := r)).call c (fun a ha j hj => by
    have hj' : a ∈ (if j = r then [] else φ j) := hj
    split at hj'
    · cases hj'
    · rename_i z; exact hF a ha j z hj')
  have S2 := S1.set (i := r) o nd out (fun j hj a ha hc => by
    have hc' : a ∈ (if j = r then [] else φ j) := hc
    rw [if_neg hj] at hc'
    rcases fr a ha with z | z
    · obtain ⟨u, q⟩ := S.dom j a hc'; rw [z] at q; cases q
    · exact hF a z j hj hc')
  have e1 : σ.set r (some v) = σ := by
    obtain ⟨h1, h2⟩ := List.getElem?_eq_some_iff.mp es
    rw [← h2]; exact List.set_getElem_self h1
  have e2 : (env.set r .unk).set r d' = env.set r d' := List.set_set ..
  have e3 : (fun j => if j = r then F2 else (if j = r then [] else φ j)) = fun j => if j = r then F2 else φ j := by
    funext j; split <;> rfl
  rw [e1, e2, e3] at S2
  exact S2
theorem simF_callM {n r : Nat} {μ chg : List Nat} {f : List D → RE D} {ta : TA} {fa : Ef (List D)} (h : SimFA G W μ ta fa) (hr : r ∉ μ) (hμ : ∀ i ∈ μ, i ∈ chg) (rc : r ∈ chg) : SimF G W chg (tCallSD (spF G n f) [] (WE W) (tCons (tVar r) ta)) (fCallM r n f fa) := fun B H env σ φ Q S hok hex hst => by
  have key : ∀ d, env[r]? = some d → d ≠ .unk → fCallM r n f fa env = (fa env).bind fun ds env1 => apM r n f d ds env1 := fun d h1 h2 => by
    unfold fCallM; rw [h1]; cases d <;> first | rfl | exact absurd rfl h2
  cases q : env[r]? with
  | none => exact absurd (by unfold fCallM; rw [q]) hst
  | some d0 =>
  by_cases hu : d0 = .unk
  · exact absurd (by unfold fCallM; rw [q, hu]) hst
  rcases S.slot r d0 q with z | ⟨v0, hv0, _⟩
  · exact absurd z hu
  have E0 := key d0 q hu
  refine ⟨v0, hv0, ?_⟩
  refine h B H env σ φ _ S (fun ds env1 hd us B1 H1 φ1 Fa r1 => ?_) (fun e env' he cls dx B' H' φ' rx => hex e env' (by rw [E0, he]; rfl) cls dx B' H' φ' ⟨rx.tr.mono hμ, rx.st, fun i hi => rx.env i fun z => hi (hμ i z), rx.is⟩) (fun z => hst (by rw [E0, z]; rfl))
  have E1 : fCallM r n f fa env = apM r n f d0 ds env1 := by rw [E0, hd]; rfl
  unfold apM at E1
  have q1 : env1[r]? = some d0 := (r1.env r hr).trans q
  rcases r1.st.slot r d0 q1 with z | ⟨v1, hv1, o1⟩
  · exact absurd z hu
  rw [hv0] at hv1; cases hv1
  by_cases hn : ds.length + 1 = n
  case neg => rw [if_neg hn] at E1; exact absurd E1 hst
  rw [if_pos hn] at E1
  have ndF : (φ1 r ++ Fa).Nodup := List.nodup_append.mpr ⟨r1.st.nd r, r1.nd, fun a ha b hb z => r1.dj b hb r (by rw [← z]; exact ha)⟩
  have fF : ∀ a ∈ φ1 r ++ Fa, H a = none ∨ ∃ j ∈ chg, a ∈ φ j := fun a ha => by
    rcases List.mem_append.mp ha with ha | ha
    · exact .inr ⟨r, rc, r1.tr.same r hr a ha⟩
    · exact (r1.fr a ha).imp id fun ⟨j, hj, z⟩ => ⟨j, hμ j hj, z⟩
  have hF : ∀ a ∈ φ1 r ++ Fa, ∀ j, j ≠ r → a ∉ φ1 j := fun a ha j hj hc => by
    rcases List.mem_append.mp ha with ha | ha
    · exact r1.st.dj j r hj a hc ha
    · exact r1.dj a ha j hc
  show spF G n f (v0 :: us ++ []) H1 Q _
  rw [List.append_nil]
  have hnv : (v0 :: us).length = n := by rw [List.length_cons, ← r1.ow.length]; exact hn
  have lr : r < env1.length := (List.getElem?_eq_some_iff.mp q1).1
  have fin : ∀ {ds' : List D} {B' H' : Hp} {F1 F2 : List Addr}, CTr (φ1 r ++ Fa) B1 H1 B' H' → Owns G B' H' ds' (v0 :: us) F2 → (F1 ++ F2).Nodup → (∀ a ∈ F1 ++ F2, B' a = none) → (∀ a ∈ F1 ++ F2, H1 a = none ∨ a ∈ φ1 r ++ Fa) →
      ∃ F21, Tr chg φ B H B' H' (fun j => if j = r then F21 else φ1 j) ∧ Sta G B' H' (env1.set r (ds'.headD .unk)) σ (fun j => if j = r then F21 else φ1 j) ∧ (∀ a ∈ F1, ∀ j, a ∉ (if j = r then F21 else φ1 j)) := fun {ds' B' H' F1 F2} c ow nd out fr => by
    cases ds' with
    | nil => exact absurd ow.1 (fun z => nomatch z)
    | cons d' rest =>
    obtain ⟨x, xs, F21, F22, e1, e2, o2, o3⟩ := ow
    cases e1; subst e2
    obtain ⟨n1, n2, n3⟩ := List.nodup_append.mp nd
    have in2 : ∀ a ∈ F21, a ∈ F1 ++ (F21 ++ F22) := fun a ha => List.mem_append_right _ (List.mem_append_left _ ha)
    refine ⟨F21, (r1.tr.mono hμ).call c fF (fun j hj a ha => ?_) (fun j hj a ha => ?_), r1.st.callM c hF hv0 o2 (List.nodup_append.mp n2).1 (fun a ha => out a (in2 a ha)) (fun a ha => fr a (in2 a ha)), fun a ha j hj => ?_⟩
    · have ha' : a ∈ (if j = r then F21 else φ1 j) := ha
      rw [if_neg (fun z => hj (by rw [z]; exact rc))] at ha'; exact ha'
    · have ha' : a ∈ (if j = r then F21 else φ1 j) := ha
      split at ha'
      · rename_i z; exact .inr (fr a (in2 a ha'))
      · exact .inl ha'
    · split at hj
      · exact n3 a ha a (List.mem_append_left _ hj) rfl
      · rename_i z
        rcases fr a (List.mem_append_left _ ha) with y | y
        · obtain ⟨u, w⟩ := r1.st.dom j a hj; rw [y] at w; cases w
        · exact hF a y j z hj
  have envE : ∀ (d' : D) i, i ∉ chg → (env1.set r d')[i]? = env[i]? := fun d' i hi => by
    rw [List.getElem?_set_ne (fun z : r = i => hi (by rw [← z]; exact rc))]
    exact r1.env i fun z => hi (hμ i z)
  refine ⟨hnv, B1, d0 :: ds, φ1 r ++ Fa, r1.st.ex, Owns.cons o1 r1.ow, ndF, fun a ha => ?_, fun z => hst (by rw [E1, z]), fun d ds' hd' v B' H' F1 F2 c => ?_, fun e ds' he' cls dx B' H' F2 c => ?_⟩
  · rcases List.mem_append.mp ha with ha | ha
    · exact r1.st.out r a ha
    · exact r1.out a ha
  · obtain ⟨F21, t1, t2, t3⟩ := fin c.tr c.ows c.nd c.out c.fr
    refine hok d _ (by rw [E1, hd']) v B' H' _ F1 ⟨t1, t2, envE _, c.ow, (List.nodup_append.mp c.nd).1, fun a ha => c.out a (List.mem_append_left _ ha), t3, fun a ha => ?_⟩
    rcases c.fr a (List.mem_append_left _ ha) with z | z
    · exact r1.tr.mono hμ |>.back (.inl z)
    · exact fF a z
  · obtain ⟨F21, t1, t2, t3⟩ := fin (F1 := []) c.tr c.ows c.nd c.out c.fr
    exact hex e _ (by rw [E1, he']) cls dx B' H' _ ⟨t1, t2, envE _, c.is⟩
end
end DP


set_option Elab.async false
set_option linter.all false
set_option maxRecDepth 100000
set_option maxHeartbeats 4000000
namespace DP
open PySem L2 Evl

/-! ### a part is moved out of its place -/
section
variable {G : Gx} {W : WX}
theorem AtO.take {B H : Hp} : ∀ {p : List Nat} {d : D} {v w : V} {F : List Addr}, AtO G B H p d v F w → F.Nodup →
    ∃ d' F' Fr, getP p d = some d' ∧ Own G B H d' w F' ∧ Own G B H (setP p d .unk) v Fr ∧ F'.Sublist F ∧ Fr.Sublist F ∧ ∀ a ∈ F', a ∉ Fr
  | [], d, v, w, F, h, nd => ⟨d, F, [], rfl, by rw [h.1]; exact h.2, rfl, List.Sublist.refl _, List.nil_sublist _, fun _ _ z => nomatch z⟩
  | i :: p, _, _, w, F, h, nd => by
    obtain ⟨o, k, l, a, xs, F1, F2, F3, x, d', rfl, rfl, e3, e4, e5, e6, e7, e8, e9, e10⟩ := h
    have sF : (F1 ++ (F2 ++ F3)).Sublist F := by rw [e4]; exact sub_ownF
    have nd' := nd.sublist sF
    obtain ⟨n1, n23, n123⟩ := List.nodup_append.mp nd'
    obtain ⟨n2, n3, n23'⟩ := List.nodup_append.mp n23
    obtain ⟨dd, F', Fr, q1, q2, q3, q4, q5, q6⟩ := AtO.take (p := p) e9 n2
    have s2 : F2.Sublist (F1 ++ (F2 ++ F3)) := (List.sublist_append_left _ _).trans (List.sublist_append_right _ _)
    have sr : (F1 ++ (Fr ++ F3)).Sublist (F1 ++ (F2 ++ F3)) := (List.Sublist.refl _).append (q5.append (List.Sublist.refl _))
    refine ⟨dd, F', ownF o a (F1 ++ (Fr ++ F3)), by show l[i]?.bind (getP p) = _; rw [e7]; exact q1, q2, ?_, (q4.trans s2).trans sF, ?_, fun b hb hc => ?_⟩
    · show Own G B H (match l[i]? with | some d => D.con o k (l.set i (setP p d .unk)) | none => .con o k l) (.ref a) _
      rw [e7]
      refine ⟨a, xs, F1 ++ (Fr ++ F3), rfl, Owns.mid e6 q3 e10 e7 e8, e3, rfl, fun ho hk => ?_⟩
      have := e5 ho hk
      exact List.sublist_nil.mp (by rw [← this]; exact sr)
    · rw [e4]; unfold ownF; split
      · exact sr.cons_cons a
      · exact sr
    · have hc' : b ∈ F1 ++ (Fr ++ F3) ∨ (o = true ∧ b = a) := by
        unfold ownF at hc
        split at hc
        · rename_i ho
          rcases List.mem_cons.mp hc with z | z
          · exact .inr ⟨ho, z⟩
          · exact .inl z
        · exact .inl hc
      have b2 : b ∈ F2 := q4.subset hb
      rcases hc' with z | ⟨ho, z⟩
      · rcases List.mem_append.mp z with z | z
        · exact n123 b z b (List.mem_append_left _ b2) rfl
        · rcases List.mem_append.mp z with z | z
          · exact q6 b hb z
          · exact n23' b b2 b z rfl
      · subst ho; subst z
        rw [e4] at nd
        exact (List.nodup_cons.mp nd).1 (List.mem_append_right _ (List.mem_append_left _ b2))
def fMvP (r : Nat) (fp : Env → R (List Nat)) : Ef D := fun env => RPe (fp env) env fun p => match env[r]?.bind fun d0 => (getP p d0).map fun d => (d, env.set r (setP p d0 .unk)) with
  | some (.unk, _) => .stk
  | some y => .ok y.1 y.2
  | none => .stk
theorem simF_mvP {r : Nat} {μ : List Nat} {tp : TE} {fp : Env → R (List Nat)} (hp : SimPl G W r tp fp) (rc : r ∈ μ) : SimF G W μ tp (fMvP r fp) := fun B H env σ φ Q S hok hex hst => by
  refine hp B H env σ φ _ S (fun p hp' d0 v0 w B1 H1 g1 e1 e2 at1 => ?_) (fun e he cls dx B' H' rx => hex e env (by show RPe (fp env) _ _ = _; rw [he]; rfl) cls dx B' H' φ (rx.rxF S)) (fun z => hst (by show RPe (fp env) _ _ = _; rw [z]; rfl))
  have S1 := S.grow g1
  obtain ⟨d', F', Fr, q1, q2, q3, q4, q5, q6⟩ := at1.take (S.nd r)
  have E : fMvP r fp env = match env[r]?.bind fun d0 => (getP p d0).map fun d => (d, env.set r (setP p d0 .unk)) with
    | some (.unk, _) => .stk
    | some y => .ok y.1 y.2
    | none => .stk := by show RPe (fp env) _ _ = _; rw [hp']; rfl
  have e3 : (env[r]?.bind fun d0 => (getP p d0).map fun d => (d, env.set r (setP p d0 .unk))) = some (d', env.set r (setP p d0 .unk)) := by rw [e1]; show (getP p d0).map _ = _; rw [q1]; rfl
  rw [e3] at E
  by_cases hu : d' = .unk
  · subst hu; exact absurd E hst
  have E2 : fMvP r fp env = .ok d' (env.set r (setP p d0 .unk)) := by rw [E]; cases d' <;> first | rfl | exact absurd rfl hu
  have sF : ∀ a ∈ F', a ∈ φ r := fun a ha => q4.subset ha
  have S2 := (S1.set0 (r := r)).set (i := r) q3 ((S.nd r).sublist q5) (fun a ha => S1.out r a (q5.subset ha)) (fun j hj a ha hc => by
    have hc' : a ∈ (if j = r then [] else φ j) := hc
    rw [if_neg hj] at hc'
    exact S.dj r j (fun z => hj z.symm) a (q5.subset ha) hc')
  have z1 : σ.set r (some v0) = σ := by
    obtain ⟨h1, h2⟩ := List.getElem?_eq_some_iff.mp e2
    rw [← h2]; exact List.set_getElem_self h1
  have z2 : (env.set r .unk).set r (setP p d0 .unk) = env.set r (setP p d0 .unk) := List.set_set ..
  have z3 : (fun j => if j = r then Fr else (if j = r then [] else φ j)) = fun j => if j = r then Fr else φ j := by
    funext j; split <;> rfl
  rw [z1, z2, z3] at S2
  refine hok d' _ E2 w B1 H1 _ F' ⟨⟨g1.bb, fun a o h _ => g1.hh a o h, fun a o h1 h2 => .inl (g1.nw a o h1 h2), fun j hj a ha => ?_, fun j hj a ha => ?_⟩, S2, fun j hj => List.getElem?_set_ne (fun z => hj (by rw [← z]; exact rc)), q2, (S.nd r).sublist q4, fun a ha => S1.out r a (sF a ha), fun a ha j hj => ?_, fun a ha => .inr ⟨r, rc, sF a ha⟩⟩
  · have ha' : a ∈ (if j = r then Fr else φ j) := ha
    rw [if_neg (fun z => hj (by rw [z]; exact rc))] at ha'; exact ha'
  · have ha' : a ∈ (if j = r then Fr else φ j) := ha
    split at ha'
    · exact .inr ⟨r, rc, q5.subset ha'⟩
    · exact .inr ⟨j, hj, ha'⟩
  · have hj' : a ∈ (if j = r then Fr else φ j) := hj
    split at hj'
    · exact q6 a ha hj'
    · rename_i z; exact S.dj r j (fun y => z y.symm) a (sF a ha) hj'
end

/-! ### slots are frozen behind a statement -/
def frzE (env : Env) : List Nat → Env
  | [] => env
  | r :: rs => match (frzE env rs)[r]? with
    | some d => (frzE env rs).set r (frz d)
    | none => frzE env rs
def sFrz (f : Env → Fl) (vs : List Nat) : Env → Fl := fun env => match f env with
  | .nx env => .nx (frzE env vs)
  | x => x
section
variable {G : Gx} {W : WX}
theorem RsS.frz1 {rea chg : List Nat} {φ φ1 : Nat → List Addr} {B H B1 H1 : Hp} {env env1 : Env} {σ σ1 : L2.St} {r : Nat} {d : D} (rc : r ∈ chg) (x : RsS G rea chg φ B H env σ env1 σ1 B1 H1 φ1) (e : env1[r]? = some d) :
    ∃ B2 φ2, RsS G rea chg φ B H env σ (env1.set r (frz d)) σ1 B2 H1 φ2 := by
  rcases x.st.slot r d e with hd | ⟨v, hv, o⟩
  · subst hd
    refine ⟨B1, φ1, x.tr, ?_, fun i hi => ?_, x.sig⟩
    · have : env1.set r (frz .unk) = env1 := by
        obtain ⟨h1, h2⟩ := List.getElem?_eq_some_iff.mp e
        show env1.set r .unk = env1
        rw [← h2]; exact List.set_getElem_self h1
      rw [this]; exact x.st
    · rw [List.getElem?_set_ne (fun z => hi (by rw [← z]; exact rc))]; exact x.env i hi
  · have S0 := x.st.set0 (r := r)
    obtain ⟨B2, b1, b2, b3, b4⟩ := S0.freeze o (x.st.out r) (fun a ha i hi => by
      have hi' : a ∈ (if i = r then [] else φ1 i) := hi
      split at hi'
      · cases hi'
      · rename_i z; exact x.st.dj r i (fun y => z y.symm) a ha hi')
    have S2 := b3.set (i := r) (v := v) (F := []) b2 .nil (fun _ h => (nomatch h)) (fun _ _ _ h => (nomatch h))
    have z1 : σ1.set r (some v) = σ1 := by
      obtain ⟨h1, h2⟩ := List.getElem?_eq_some_iff.mp hv
      rw [← h2]; exact List.set_getElem_self h1
    have z2 : (env1.set r .unk).set r (frz d) = env1.set r (frz d) := List.set_set ..
    have z3 : (fun j => if j = r then [] else (if j = r then [] else φ1 j)) = fun j => if j = r then [] else φ1 j := by
      funext j; split <;> rfl
    rw [z1, z2, z3] at S2
    refine ⟨B2, _, ⟨x.tr.bb.trans b1, x.tr.keep, fun a u q1 q2 => ?_, fun j hj a ha => ?_, fun j hj a ha => ?_⟩, S2, fun i hi => ?_, x.sig⟩
    · cases q : B1 a with
      | some w => exact x.tr.nw a w q q2
      | none => exact x.tr.fr r rc a (b4 a u q1 q)
    · have ha' : a ∈ (if j = r then [] else φ1 j) := ha
      split at ha'
      · cases ha'
      · exact x.tr.same j hj a ha'
    · have ha' : a ∈ (if j = r then [] else φ1 j) := ha
      split at ha'
      · cases ha'
      · exact x.tr.fr j hj a ha'
    · rw [List.getElem?_set_ne (fun z => hi (by rw [← z]; exact rc))]; exact x.env i hi
theorem RsS.frz {rea chg : List Nat} {φ φ1 : Nat → List Addr} {B H B1 H1 : Hp} {env env1 : Env} {σ σ1 : L2.St} : ∀ {vs : List Nat}, (∀ r ∈ vs, r ∈ chg) → RsS G rea chg φ B H env σ env1 σ1 B1 H1 φ1 → ∃ B2 φ2, RsS G rea chg φ B H env σ (frzE env1 vs) σ1 B2 H1 φ2
  | [], _, x => ⟨B1, φ1, x⟩
  | r :: rs, hv, x => by
    obtain ⟨B2, φ2, y⟩ := RsS.frz (fun i hi => hv i (List.mem_cons_of_mem _ hi)) x
    unfold frzE
    split
    · rename_i d e
      exact y.frz1 (hv r List.mem_cons_self) e
    · exact ⟨B2, φ2, y⟩
theorem simS_frz {rea chg vs : List Nat} {t : TS} {f : Env → Fl} (hv : ∀ i ∈ vs, i ∈ chg) (h : SimS G W rea chg t f) : SimS G W rea chg t (sFrz f vs) := ⟨fun B H env σ φ D S hn hb hc hr hx hst => by
  have go : ∀ x, f env = x → sFrz f vs env = (match x with | .nx env => Fl.nx (frzE env vs) | x => x) := fun x e => by unfold sFrz; rw [e]
  refine h.run B H env σ φ D S (fun env1 e1 σ1 B1 H1 φ1 r1 => ?_) (fun env1 e1 σ1 B1 H1 φ1 r1 => hb env1 (go _ e1) σ1 B1 H1 φ1 r1) (fun env1 e1 σ1 B1 H1 φ1 r1 => hc env1 (go _ e1) σ1 B1 H1 φ1 r1)
    (fun d env1 e1 v σ1 B1 H1 φ1 F r1 => hr d env1 (go _ e1) v σ1 B1 H1 φ1 F r1) (fun e env1 e1 cls dx σ1 B1 H1 φ1 r1 => hx e env1 (go _ e1) cls dx σ1 B1 H1 φ1 r1) (fun z => hst (go _ z))
  obtain ⟨B2, φ2, y⟩ := RsS.frz hv r1
  exact hn _ (go _ e1) σ1 B2 H1 φ2 y⟩
end

/-! ### a call that reads what the caller owns: it is lent, and what comes is plain -/
structure RsB (G : Gx) (B H : Hp) (ds : List D) (vs : List V) (B' H' : Hp) (F : List Addr) : Prop where
  gr : Gr B H B' H'
  ow : Owns G B' H' ds vs F
  out : ∀ a ∈ F, B' a = none
def SimB (G : Gx) (W : WX) (t : TA) (f : Env → R (List D)) : Prop := ∀ B H env σ φ Q, Sta G B H env σ φ →
  (∀ ds, f env = .ok ds → ∀ vs B' H' F, RsB G B H ds vs B' H' F → Q vs H') →
  (∀ e, f env = .exc e → ∀ cls dx B' H', Rx G B H B' H' e cls dx → W cls dx σ H') →
  f env ≠ .stk → t σ H Q
def isScal : D → Bool
  | .non => true
  | .bl _ => true
  | .int _ => true
  | .str _ => true
  | _ => false
def lend (n : Nat) (f : List D → RE D) (ds : List D) : R D := if ds.length = n then match f (frzs ds) with
  | .ok d _ => if isScal d = true then .ok d else .stk
  | _ => .stk else .stk
def eCallB (n : Nat) (f : List D → RE D) (fa : Env → R (List D)) : Env → R D := fun env => fa env >>= lend n f
section
variable {G : Gx} {W : WX} {m m1 m2 : Option Nat} {t ta tb tc : TE} {fa fb fc : Env → R D} {tr : TA} {fr : Env → R (List D)}
theorem simB_nil : SimB G W tNil eNil := fun B H env σ φ Q S hok hex hst => hok [] rfl [] B H [] ⟨Gr.refl S.ex, Owns.nil, fun _ h => nomatch h⟩
theorem simB_cons (h : Sim G W m ta fa) (hr : SimB G W tr fr) : SimB G W (tCons ta tr) (eCons fa fr) := fun B H env σ φ Q S hok hex hst => by
  refine h B H env σ φ _ S (fun d hd v B1 H1 F1 r1 => ?_) (fun e he cls dx B' H' rx => hex e (by show (fa env >>= _) = _; rw [he]; rfl) cls dx B' H' rx) (bind_stk hst)
  have E1 : eCons fa fr env = (fr env >>= fun ds => .ok (d :: ds)) := by show (fa env >>= _) = _; rw [hd]; rfl
  rw [E1] at hst
  refine hr B1 H1 env σ φ _ (S.grow r1.gr) (fun ds hds vs B2 H2 F2 r2 => ?_) (fun e he cls dx B' H' rx => hex e (by rw [E1, he]; rfl) cls dx B' H' (rx.pre r1.gr)) (bind_stk hst)
  refine hok (d :: ds) (by rw [E1, hds]; rfl) (v :: vs) B2 H2 (F1 ++ F2) ⟨r1.gr.trans r2.gr, Owns.cons (Own.mono r2.gr.bb r1.ow (fun a _ o => r2.gr.hh a o)) r2.ow, fun a ha => ?_⟩
  rcases List.mem_append.mp ha with ha | ha
  · exact out_grow r2.gr r1.out r1.ow.dom a ha
  · exact r2.out a ha
theorem scal_own {B H B' H' : Hp} {d : D} {v : V} {F : List Addr} (h : isScal d = true) (o : Own G B H d v F) : Own G B' H' d v [] := by
  cases d with
  | non => exact ⟨o.1, rfl⟩
  | bl b => exact ⟨o.1, rfl⟩
  | int i => exact ⟨o.1, rfl⟩
  | str s => exact ⟨o.1, rfl⟩
  | _ => cases h
theorem sim_callB {n : Nat} {f : List D → RE D} (h : SimB G W tr fr) : Sim G W m (tCallSD (spF G n f) [] (WE W) tr) (eCallB n f fr) := fun B H env σ φ Q S hok hex hst => by
  refine h B H env σ φ _ S (fun ds hd vs B1 H1 F r => ?_) (fun e he cls dx B' H' rx => hex e (by show (fr env >>= _) = _; rw [he]; rfl) cls dx B' H' rx) (bind_stk hst)
  have E : eCallB n f fr env = lend n f ds := by show (fr env >>= _) = _; rw [hd]; rfl
  unfold lend at E
  by_cases hn : ds.length = n
  case neg => rw [if_neg hn] at E; exact absurd E hst
  rw [if_pos hn] at E
  rw [List.append_nil]
  have hb : Ex B1 (fun a => if a ∈ F then H1 a else B1 a) := fun a u q => by
    show (if a ∈ F then H1 a else B1 a) = some u
    rw [if_neg (fun z => by rw [r.out a z] at q; cases q)]; exact q
  have hbh : Ex (fun a => if a ∈ F then H1 a else B1 a) H1 := fun a u q => by
    have q' : (if a ∈ F then H1 a else B1 a) = some u := q
    split at q'
    · exact q'
    · exact r.gr.bh a u q'
  refine ⟨r.ow.length.symm.trans hn, (fun a => if a ∈ F then H1 a else B1 a), frzs ds, [], hbh, Owns.frz hb r.ow (fun a ha u q => by show (if a ∈ F then H1 a else B1 a) = some u; rw [if_pos ha]; exact q), .nil, (fun _ h => nomatch h), fun z => hst (by rw [E, z]), fun d ds' hd' v B' H' F1 F2 c => ?_, fun e ds' he' cls dx B' H' F2 c => ?_⟩
  · rw [hd'] at E
    dsimp only at E
    by_cases hs : isScal d = true
    case neg => rw [if_neg hs] at E; exact absurd E hst
    rw [if_pos hs] at E
    have bb : Ex B1 (fun a => if a ∈ F then none else B' a) := fun a u q => by
      show (if a ∈ F then none else B' a) = some u
      rw [if_neg (fun z => by rw [r.out a z] at q; cases q)]
      exact c.tr.bb a u (hb a u q)
    refine hok d E v (fun a => if a ∈ F then none else B' a) H' [] (.sh (r.gr.trans ⟨fun a u q => c.tr.keep a u q (fun z => nomatch z), bb, fun a u q => ?_, fun a u q1 q2 => ?_⟩) (scal_own hs c.ow))
    · have q' : (if a ∈ F then none else B' a) = some u := q
      split at q'
      · cases q'
      · exact c.tr.ex a u q'
    · have q' : (if a ∈ F then none else B' a) = some u := q1
      split at q'
      · cases q'
      · rename_i z
        rcases c.tr.nw a u q' (by show (if a ∈ F then H1 a else B1 a) = none; rw [if_neg z]; exact q2) with y | y
        · exact y
        · cases y
  · rw [he'] at E; exact absurd E hst
end
end DP


set_option Elab.async false
set_option linter.all false
set_option maxRecDepth 100000
set_option maxHeartbeats 4000000
namespace DP
open PySem L2 Evl
theorem b_abs : bootBuiltins "abs" = some (.builtin "abs") := by decide +kernel
theorem b_max : bootBuiltins "max" = some (.builtin "max") := by decide +kernel
theorem b_min : bootBuiltins "min" = some (.builtin "min") := by decide +kernel
theorem b_sum : bootBuiltins "sum" = some (.builtin "sum") := by decide +kernel
theorem b_isinstance : bootBuiltins "isinstance" = some (.builtin "isinstance") := by decide +kernel
def eSh (f : Env → R D) : Env → R D := fun env => toShd (f env)
theorem sim_sh {G : Gx} {W : WX} {m m1 : Option Nat} {t : TE} {f : Env → R D} (h : Sim G W m t f) : Sim G W m1 t (eSh f) := h.shd
theorem nomode {chg : List Nat} : ∀ r, (none : Option Nat) = some r → r ∉ chg := fun _ h => nomatch h
section
variable {G : Gx}
theorem h_add : ∀ x y e, pAdd x y ≠ .exc e := pAdd_noexc
theorem h_int {C : Int → Int → Bool} {g : Int → Int → D} : ∀ x y e, intOp C g x y ≠ .exc e := intOp_noexc
theorem h_sub : ∀ x y e, pSub x y ≠ .exc e := intOp_noexc
theorem h_mul : ∀ x y e, pMul x y ≠ .exc e := intOp_noexc
theorem h_div : ∀ x y e, pDiv x y ≠ .exc e := intOp_noexc
theorem h_mod : ∀ x y e, pMod x y ≠ .exc e := intOp_noexc
theorem h_pow : ∀ x y e, pPow x y ≠ .exc e := intOp_noexc
theorem h_lt : ∀ x y e, pLt x y ≠ .exc e := intOp_noexc
theorem h_le : ∀ x y e, pLe x y ≠ .exc e := intOp_noexc
theorem h_gt : ∀ x y e, pGt x y ≠ .exc e := intOp_noexc
theorem h_ge : ∀ x y e, pGe x y ≠ .exc e := intOp_noexc
theorem h_eq : ∀ x y e, pEq x y ≠ .exc e := pEq_noexc
theorem h_ne : ∀ x y e, pNe x y ≠ .exc e := pNe_noexc
theorem h_is : ∀ x y e, pIs x y ≠ .exc e := pIs_noexc
theorem h_isNot : ∀ x y e, pIsNot x y ≠ .exc e := pIsNot_noexc
theorem h_in : ∀ x y e, pIn x y ≠ .exc e := pIn_noexc
theorem h_notIn : ∀ x y e, pNotIn x y ≠ .exc e := pNotIn_noexc
theorem h_ix : ∀ x y e, pIx x y ≠ .exc e := pIx_noexc
end

/-! ### the rules with the written part named (a comprehension's block has the def's) -/
section
variable {X : Cx} {K : PySem.W.Frag}
theorem kIx (h : X.K = K) : IxR X (rIx K) := h ▸ ix_seq
theorem kEq (h : X.K = K) (hu : X.A.units + 64 < cLine) : OpR X (compareOp .Eq) (rEqD K) := h ▸ op_eqD hu
theorem kNe (h : X.K = K) (hu : X.A.units + 64 < cLine) : OpR X (compareOp .NotEq) (rNeD K) := h ▸ op_neD hu
theorem kIn (h : X.K = K) (hu : X.A.units + 65 < cLine) : OpR X (compareOp .In) (rInD K) := h ▸ op_inD hu
theorem kNotIn (h : X.K = K) (hu : X.A.units + 65 < cLine) : OpR X (compareOp .NotIn) (rNotInD K) := h ▸ op_notInD hu
theorem kLen (h : X.K = K) : CallR X (.builtin "len") (rLenA K) := h ▸ cr_len
theorem kMax (h : X.K = K) (hc : X.calm = true) : CallR X (.builtin "max") (rMax K) := h ▸ cr_max hc
theorem kMin (h : X.K = K) (hc : X.calm = true) : CallR X (.builtin "min") (rMin K) := h ▸ cr_min hc
theorem kSum (h : X.K = K) (hc : X.calm = true) : CallR X (.builtin "sum") (rSum K) := h ▸ cr_sum hc
theorem kIsi (h : X.K = K) : CallR X (.builtin "isinstance") (rIsi K) := h ▸ call_isi
theorem kList (h : X.K = K) : CallR X (.type "list") (fun xs H Q => ∃ p ys, xs = [.ref p] ∧ (SqL K H p ys ∨ SqT K H p ys) ∧ ∀ l, H l = none → Q (.ref l) (upd H l (.lst ys))) := h ▸ call_list_of
theorem kTuple (h : X.K = K) : CallR X (.type "tuple") (fun xs H Q => ∃ p ys, xs = [.ref p] ∧ ((SqL K H p ys ∧ ∀ l, H l = none → Q (.ref l) (upd H l (.tup ys))) ∨ (SqT K H p ys ∧ Q (.ref p) H))) := h ▸ call_tuple_of
theorem kSl (h : X.K = K) : SlR X (rSlD K) := h ▸ sl_D
theorem kPiL {tg l : Expr} {tl : TE} (h : X.K = K) (hl : PE X l tl) : PI X tg l (iList K tl) := h ▸ pi_list hl
theorem kPiT {tg l : Expr} {tl : TE} (h : X.K = K) (hl : PE X l tl) : PI X tg l (iTup K tl) := h ▸ pi_tup hl
theorem kPiE {e : Expr} {ta : TA} {p pos tpos : Pos} {elts : List Expr} {kk : Nat} (h : X.K = K) (hg : Gl X "enumerate") (hm : X.mg "enumerate" = none) (ha : PA X [e] ta) (hs : starEach [e] X.env = [(false, eval e X.env)] := by rfl) :
    PI X (.Tuple elts kk tpos) (.Call (.Name "enumerate" p) [e] [] pos) (iEnum K ta) := h ▸ pi_enum hg hm ha hs
theorem kGt {es : List Expr} {k : Nat} {t : TGs} {n : Nat} {pos : Pos} (h0 : X.K = K) (hc : X.calm = true) (h : PGs X es t) (hn : (assignEach es X.env).length = n := by rfl) (hst : (assignEach es X.env).findIdx? (·.1) = none := by rfl) : PG X (.Tuple es k pos) (gTup K n t) := h0 ▸ pg_tup hc h hn hst
theorem kTru {a : Expr} {ta : TE} (h : X.K = K) (ha : PE X a ta) (he : ∀ whole, isTrue a X.env whole = (do let v ← whole; standAt a.pos; holding [v] (truthy v))) : PT X a (tTru K ta) := h ▸ pt_truth ha he
end
end DP


set_option Elab.async false
set_option linter.all false
set_option maxRecDepth 100000
set_option maxHeartbeats 4000000
namespace DP
open PySem L2 Evl
/-! ### the law's own call -/
def spLaw (K : PySem.W.Frag) : Sp := fun vs H Q _ => ∃ (a : Addr) (ns : List Int), vs = [.ref a] ∧ SqL K H a (ns.map V.int) ∧ ns.length ≤ 63 ∧ ∀ H', Q (.bl true) H'
def scr (ns : List Int) : D := .con false .kls (ns.map D.int)
theorem owns_ints {G : Gx} {B H : Hp} : ∀ ns : List Int, Owns G B H (ns.map D.int) (ns.map V.int) []
  | [] => ⟨rfl, rfl⟩
  | n :: ns => ⟨.int n, ns.map V.int, [], [], rfl, rfl, ⟨rfl, rfl⟩, owns_ints ns⟩
theorem law_imp {K : PySem.W.Frag} {mg : Str → Option Value} {f : List D → RE D} (hf : ∀ ns : List Int, ns.length ≤ 63 → ∃ ds, f [scr ns] = .ok (.bl true) ds) (vs : List V) (H : Hp) (Q : VK) (E : XK) (h : spLaw K vs H Q E) : spF ⟨K, mg⟩ 1 f vs H Q E := by
  obtain ⟨a, ns, rfl, hS, hl, q⟩ := h
  obtain ⟨ds, e⟩ := hf ns hl
  refine ⟨rfl, H, [scr ns], [], Ex.refl H, ⟨.ref a, [], [], [], rfl, rfl, ⟨a, ns.map V.int, [], rfl, owns_ints ns, hS, rfl, fun _ _ => rfl⟩, rfl, rfl⟩, .nil, (fun _ h => nomatch h), by rw [e]; exact (fun z => nomatch z), fun d ds' h v B' H' F1 F2 c => ?_, fun x ds' h => ?_⟩
  · rw [e] at h; cases h
    have z : v = .bl true := c.ow.1
    rw [z]; exact q H'
  · rw [e] at h; cases h
theorem cx_end {P : Program} {w : World} {H : Hp} {s : Shared} {e : Value} {s' : Shared} (h : L2.CX P w [] H s (fun _ _ _ => False) e s') : False := by
  obtain ⟨_, _, _, _, _, _, _, _, _, _, _, _, z⟩ := h
  exact z
end DP


set_option Elab.async false
set_option linter.all false
set_option maxRecDepth 100000
set_option maxHeartbeats 4000000
namespace DP
open PySem L2 Evl

/-! ### values that may be compared -/
def nice : Nat → D → Bool
  | _, .non => true
  | _, .bl _ => true
  | _, .int _ => true
  | _, .str s => (PyData.str s).canLay0
  | n + 1, .con _ .lst l => l.all (nice n)
  | n + 1, .con _ .kls l => l.all (nice n)
  | n + 1, .con _ .tup l => l.all (nice n)
  | _, _ => false
theorem lay_all {p : D → Bool} : ∀ {l : List D}, l.all p = true → (∀ d, p d = true → (toPy d).canLay0 = true) → PyData.canLayAll0 (toPys l) = true
  | [], _, _ => by simp [toPys, PyData.canLayAll0]
  | d :: l, h, k => by
    simp only [List.all_cons, Bool.and_eq_true] at h
    simp only [toPys, PyData.canLayAll0, Bool.and_eq_true]
    exact ⟨k d h.1, lay_all h.2 k⟩
theorem dep_all {p : D → Bool} {n : Nat} : ∀ {l : List D}, l.all p = true → (∀ d, p d = true → (toPy d).depth ≤ n) → PyData.depthAll (toPys l) ≤ n
  | [], _, _ => by simp [toPys, PyData.depthAll]
  | d :: l, h, k => by
    simp only [List.all_cons, Bool.and_eq_true] at h
    simp only [toPys, PyData.depthAll]
    have := k d h.1
    have := dep_all h.2 k
    omega
theorem cmp_all {p : D → Bool} : ∀ {l : List D}, l.all p = true → (∀ d, p d = true → cmpOk d = true) → cmpOks l = true
  | [], _, _ => rfl
  | d :: l, h, k => by
    simp only [List.all_cons, Bool.and_eq_true] at h
    simp only [cmpOks, Bool.and_eq_true]
    exact ⟨k d h.1, cmp_all h.2 k⟩
theorem nice_is : ∀ {n : Nat} {d : D}, nice n d = true → (toPy d).canLay0 = true ∧ (toPy d).depth ≤ n ∧ cmpOk d = true
  | n, .non, _ => ⟨by simp [toPy, PyData.canLay0], by simp [toPy, PyData.depth], rfl⟩
  | n, .bl _, _ => ⟨by simp [toPy, PyData.canLay0], by simp [toPy, PyData.depth], rfl⟩
  | n, .int _, _ => ⟨by simp [toPy, PyData.canLay0], by simp [toPy, PyData.depth], rfl⟩
  | n, .str s, h => ⟨by cases n <;> simpa [toPy, nice] using h, by simp [toPy, PyData.depth], rfl⟩
  | n + 1, .con o .lst l, h => by
    have h' : l.all (nice n) = true := h
    exact ⟨by simpa [toPy, PyData.canLay0] using lay_all h' fun d q => (nice_is q).1, by simpa [toPy, PyData.depth] using dep_all h' fun d q => (nice_is q).2.1, by simpa [cmpOk] using cmp_all h' fun d q => (nice_is q).2.2⟩
  | n + 1, .con o .kls l, h => by
    have h' : l.all (nice n) = true := h
    exact ⟨by simpa [toPy, PyData.canLay0] using lay_all h' fun d q => (nice_is q).1, by simpa [toPy, PyData.depth] using dep_all h' fun d q => (nice_is q).2.1, by simpa [cmpOk] using cmp_all h' fun d q => (nice_is q).2.2⟩
  | n + 1, .con o .tup l, h => by
    have h' : l.all (nice n) = true := h
    exact ⟨by simpa [toPy, PyData.canLay0] using lay_all h' fun d q => (nice_is q).1, by simpa [toPy, PyData.depth] using dep_all h' fun d q => (nice_is q).2.1, by simpa [cmpOk] using cmp_all h' fun d q => (nice_is q).2.2⟩
  | 0, .con o k l, h => by cases k <;> simp [nice] at h
  | n + 1, .con o (.dct _) l, h => by simp [nice] at h
  | n + 1, .con o (.dtt _) l, h => by simp [nice] at h
  | n + 1, .con o (.obj _ _) l, h => by simp [nice] at h
  | 0, .unk, h => by simp [nice] at h
  | n + 1, .unk, h => by simp [nice] at h
  | 0, .rf _, h => by simp [nice] at h
  | n + 1, .rf _, h => by simp [nice] at h
theorem cmpB_nice {x y : D} (hx : nice 64 x = true) (hy : nice 64 y = true) : cmpB x y = true := by
  obtain ⟨a1, a2, a3⟩ := nice_is hx
  obtain ⟨b1, b2, b3⟩ := nice_is hy
  simp [cmpB, SeqAt.shaped, a1, a2, a3, b1, b2, b3]
theorem pEq_nice {x y : D} (hx : nice 64 x = true) (hy : nice 64 y = true) : pEq x y = .ok (.bl (dEq x y)) := by unfold pEq; rw [if_pos (cmpB_nice hx hy)]
theorem pNe_nice {x y : D} (hx : nice 64 x = true) (hy : nice 64 y = true) : pNe x y = .ok (.bl (!dEq x y)) := by unfold pNe; rw [if_pos (cmpB_nice hx hy)]
theorem dEq_refl {d : D} {n : Nat} (h : nice n d = true) : dEq d d = true := SeqAt.eqv_refl _ (nice_is h).1
@[simp] theorem pEq_int (i j : Int) : pEq (.int i) (.int j) = .ok (.bl (i == j)) := (pEq_nice (x := .int i) (y := .int j) rfl rfl).trans (by simp [dEq, toPy, PyData.eqv])
@[simp] theorem pNe_int (i j : Int) : pNe (.int i) (.int j) = .ok (.bl (!(i == j))) := (pNe_nice (x := .int i) (y := .int j) rfl rfl).trans (by simp [dEq, toPy, PyData.eqv])
theorem pEq_str {s t : Str} (hs : (PyData.str s).canLay0 = true) (ht : (PyData.str t).canLay0 = true) : pEq (.str s) (.str t) = .ok (.bl (s == t)) := (pEq_nice (x := .str s) (y := .str t) hs ht).trans (by simp [dEq, toPy, PyData.eqv])
/-- a list against [] -/
theorem dEq_nil {o o' : Bool} {l : List D} : dEq (.con o .lst l) (.con o' .lst []) = l.isEmpty := by
  cases l <;> simp [dEq, toPy, toPys, PyData.eqv, PyData.eqvAll]
theorem pEq_nil {o o' : Bool} {l : List D} (h : nice 64 (.con o .lst l) = true) : pEq (.con o .lst l) (.con o' .lst []) = .ok (.bl l.isEmpty) := (pEq_nice h rfl).trans (by rw [dEq_nil])
theorem pNe_nil {o o' : Bool} {l : List D} (h : nice 64 (.con o .lst l) = true) : pNe (.con o .lst l) (.con o' .lst []) = .ok (.bl (!l.isEmpty)) := (pNe_nice h rfl).trans (by rw [dEq_nil])

/-! ### evaluation -/
theorem seq_nx {f g : Env → Fl} {env e : Env} {x : Fl} (h : f env = .nx e) (h2 : g e = x) : sSeq f g env = x := by unfold sSeq; rw [h]; exact h2
theorem callM_ok {r n : Nat} {f : List D → RE D} {fa : Ef (List D)} {env env1 : Env} {d0 d d0' : D} {ds ds' : List D} (he : env[r]? = some d0) (hu : d0 ≠ .unk) (hfa : fa env = .ok ds env1) (hl : ds.length + 1 = n) (hf : f (d0 :: ds) = .ok d (d0' :: ds')) : fCallM r n f fa env = .ok d (env1.set r d0') := by
  have e : fCallM r n f fa env = (fa env).bind fun ds env1 => apM r n f d0 ds env1 := by
    unfold fCallM; rw [he]
    cases d0 <;> first | rfl | exact absurd rfl hu
  rw [e, hfa, RE.bind_ok]
  unfold apM
  rw [if_pos hl, hf]; rfl
theorem seq_rt {f g : Env → Fl} {env e : Env} {d : D} (h : f env = .rt d e) : sSeq f g env = .rt d e := by unfold sSeq; rw [h]; rfl
/-- a body's answer -/
def Fl.val : Fl → R D
  | .nx _ => .ok .non
  | .rt d _ => .ok d
  | .exc e _ => .exc e
  | _ => .stk
@[simp] theorem Fl.val_nx (env : Env) : (Fl.nx env).val = .ok .non := rfl
@[simp] theorem Fl.val_rt (d : D) (env : Env) : (Fl.rt d env).val = .ok d := rfl
@[simp] theorem Fl.val_exc (e : Exc) (env : Env) : (Fl.exc e env).val = .exc e := rfl
theorem seqv {f g : Env → Fl} {env e : Env} {r : R D} (h : f env = .nx e) (h2 : (g e).val = r) : (sSeq f g env).val = r := by rw [seq_nx h rfl]; exact h2
theorem mkF_dr {N P : Nat} {rea : List Nat} {f : Env → Fl} {ds : List D} : (mkF N P rea f ds).dr = (f (ds ++ List.replicate (N - P) .unk)).val := by
  unfold mkF; cases f (ds ++ List.replicate (N - P) .unk) <;> rfl
theorem mkF_rt {N P : Nat} {rea : List Nat} {f : Env → Fl} {ds : List D} {d : D} {env env0 : Env} (h0 : ds ++ List.replicate (N - P) .unk = env0) (h : f env0 = .rt d env) : mkF N P rea f ds = .ok d (argsAt rea env 0 P) := by
  subst h0; unfold mkF; rw [h]
theorem mkF_nx {N P : Nat} {rea : List Nat} {f : Env → Fl} {ds : List D} {env env0 : Env} (h0 : ds ++ List.replicate (N - P) .unk = env0) (h : f env0 = .nx env) : mkF N P rea f ds = .ok .non (argsAt rea env 0 P) := by
  subst h0; unfold mkF; rw [h]
theorem mkF_val {N P : Nat} {rea : List Nat} {f : Env → Fl} {ds : List D} {env0 : Env} {r : R D} (h0 : ds ++ List.replicate (N - P) .unk = env0) (h : (f env0).val = r) : (mkF N P rea f ds).dr = r := by
  subst h0; rw [mkF_dr]; exact h
/-! ### loops -/
def stp (b : D → Env → R Env) (f : Env → Fl) (d : D) (env : Env) : Fl := match b d env with
  | .ok env1 => f env1
  | _ => .stk
theorem stp_name {i : Nat} {f : Env → Fl} {d : D} {env : Env} : stp (bName i) f d env = f (env.set i d) := rfl
theorem forget_nx {f : Env → Fl} {vs : List Nat} {env e : Env} (h : f env = .nx e) : sForget f vs env = .nx (wipeD e vs) := by unfold sForget; rw [h]
theorem forget_ct {f : Env → Fl} {vs : List Nat} {env e : Env} (h : f env = .ct e) : sForget f vs env = .ct (wipeD e vs) := by unfold sForget; rw [h]
theorem forget_rt {f : Env → Fl} {vs : List Nat} {env e : Env} {d : D} (h : f env = .rt d e) : sForget f vs env = .rt d e := by unfold sForget; rw [h]
theorem forGo_cons {b : D → Env → R Env} {f : Env → Fl} {d : D} {ds : List D} {env : Env} : forGo b f (d :: ds) env = match stp b f d env with
    | .nx e => forGo b f ds e
    | .ct e => forGo b f ds e
    | .bk e => .nx e
    | x => x := by
  unfold stp
  conv => lhs; unfold forGo
  cases b d env with
  | ok env1 => dsimp only; try (cases f env1 <;> rfl)
  | exc e => rfl
  | stk => rfl
def FlP (N : Env → Prop) (Rt : D → Env → Prop) : Fl → Prop
  | .nx e => N e
  | .rt d e => Rt d e
  | _ => False
/-- a loop, by an invariant of the turns -/
theorem forGo_inv {b : D → Env → R Env} {f : Env → Fl} {N : Env → Prop} {Rt : D → Env → Prop} : ∀ (ds : List D) (I : Nat → Env → Prop) (env : Env), I 0 env →
    (∀ i d e, ds[i]? = some d → I i e → match stp b f d e with
      | .nx e' => I (i + 1) e'
      | .ct e' => I (i + 1) e'
      | .bk e' => N e'
      | .rt d e' => Rt d e'
      | _ => False) → (∀ e, I ds.length e → N e) → FlP N Rt (forGo b f ds env)
  | [], I, env, h0, _, hN => hN env h0
  | d :: ds, I, env, h0, hs, hN => by
    have h1 := hs 0 d env rfl h0
    rw [forGo_cons]
    cases q : stp b f d env with
    | nx e => rw [q] at h1; exact forGo_inv ds (fun i => I (i + 1)) e h1 (fun i d' e' h => hs (i + 1) d' e' (by simpa using h)) hN
    | ct e => rw [q] at h1; exact forGo_inv ds (fun i => I (i + 1)) e h1 (fun i d' e' h => hs (i + 1) d' e' (by simpa using h)) hN
    | bk e => rw [q] at h1; exact h1
    | rt d e => rw [q] at h1; exact h1
    | exc e e' => rw [q] at h1; exact h1.elim
    | stk => rw [q] at h1; exact h1.elim
/-- a loop that keeps what it found -/
theorem for_keep {b : D → Env → R Env} {f : Env → Fl} {I : Env → Prop} : ∀ (ds : List D) (env : Env), I env → (∀ d ∈ ds, ∀ e, I e → ∃ e', (stp b f d e = .nx e' ∨ stp b f d e = .ct e') ∧ I e') → ∃ e, forGo b f ds env = .nx e ∧ I e
  | [], env, h0, _ => ⟨env, rfl, h0⟩
  | d :: ds, env, h0, hs => by
    obtain ⟨e1, h1, h2⟩ := hs d List.mem_cons_self env h0
    obtain ⟨e2, h3, h4⟩ := for_keep ds e1 h2 (fun d' hd => hs d' (List.mem_cons_of_mem _ hd))
    refine ⟨e2, ?_, h4⟩
    rw [forGo_cons]
    rcases h1 with h1 | h1 <;> rw [h1] <;> exact h3
/-- a loop that adds up -/
theorem forGo_fold {α β : Type} {b : D → Env → R Env} {f : Env → Fl} {item : α → D} {E : β → Env} {g : β → α → β} {I : β → Prop} : ∀ (l : List α) (a : β), I a → (∀ x ∈ l, ∀ a, I a → I (g a x) ∧ (stp b f (item x) (E a) = .nx (E (g a x)) ∨ stp b f (item x) (E a) = .ct (E (g a x)))) → forGo b f (l.map item) (E a) = .nx (E (l.foldl g a)) ∧ I (l.foldl g a)
  | [], a, h, _ => ⟨rfl, h⟩
  | x :: l, a, h, hs => by
    obtain ⟨h1, h2⟩ := hs x List.mem_cons_self a h
    have ih := forGo_fold l (g a x) h1 (fun y hy => hs y (List.mem_cons_of_mem _ hy))
    rw [List.map_cons, forGo_cons]
    rcases h2 with h2 | h2 <;> rw [h2] <;> exact ih
/-- a loop that seeks -/
theorem forGo_find {α : Type} {b : D → Env → R Env} {f : Env → Fl} {item : α → D} {E : Env} {h : α → Option D} : ∀ (l : List α), (∀ x ∈ l, match h x with
      | none => stp b f (item x) E = .nx E ∨ stp b f (item x) E = .ct E
      | some d => ∃ e, stp b f (item x) E = .rt d e) → match l.findSome? h with
      | none => forGo b f (l.map item) E = .nx E
      | some d => ∃ e, forGo b f (l.map item) E = .rt d e
  | [], _ => rfl
  | x :: l, hs => by
    have h1 := hs x List.mem_cons_self
    have ih := forGo_find l (fun y hy => hs y (List.mem_cons_of_mem _ hy))
    rw [List.map_cons, List.findSome?_cons]
    cases q : h x with
    | none =>
      rw [q] at h1
      dsimp only at h1 ⊢
      have e : forGo b f (item x :: l.map item) E = forGo b f (l.map item) E := by
        rw [forGo_cons]
        rcases h1 with h1 | h1 <;> rw [h1]
      rw [e]; exact ih
    | some d =>
      rw [q] at h1
      obtain ⟨e, h1⟩ := h1
      exact ⟨e, by rw [forGo_cons, h1]⟩
/-! ### comprehensions -/
theorem lcGo_map {α : Type} {g : D → Env → R Env} {c : Env → R Bool} {el : Env → R D} {env : Env} {item : α → D} {p : α → Bool} {h : α → D} : ∀ (l : List α), (∀ x ∈ l, ∃ env1, g (item x) env = .ok env1 ∧ c env1 = .ok (p x) ∧ (p x = true → el env1 = .ok (h x))) → lcGo g c el env (l.map item) = .ok ((l.filter p).map h)
  | [], _ => rfl
  | x :: l, hs => by
    obtain ⟨env1, h1, h2, h3⟩ := hs x List.mem_cons_self
    have ih := lcGo_map l (fun y hy => hs y (List.mem_cons_of_mem _ hy))
    rw [List.map_cons]
    unfold lcGo
    rw [h1, nx_ok', R.ok_bind, h2, nx_ok', R.ok_bind, ih]
    cases q : p x with
    | true => rw [if_pos rfl, h3 q, nx_ok', R.ok_bind, R.ok_bind, List.filter_cons, if_pos q]; rfl
    | false => rw [if_neg Bool.false_ne_true, List.filter_cons, if_neg (by rw [q]; exact Bool.false_ne_true)]
theorem lcGo_all {α : Type} {g : D → Env → R Env} {el : Env → R D} {env : Env} {item : α → D} {h : α → D} (l : List α) (hs : ∀ x ∈ l, ∃ env1, g (item x) env = .ok env1 ∧ el env1 = .ok (h x)) : lcGo g eYes el env (l.map item) = .ok (l.map h) := by
  have := lcGo_map (c := eYes) (p := fun _ => true) l (fun x hx => let ⟨e, h1, h2⟩ := hs x hx; ⟨e, h1, rfl, fun _ => h2⟩)
  rw [List.filter_eq_self.mpr (fun _ _ => rfl)] at this
  exact this
/-- .. that change the state, told by what is kept -/
theorem fLcGo_inv {α : Type} {g : D → Env → R Env} {c : Ef Bool} {el : Ef D} {vs : List Nat} {item : α → D} {I : Env → Prop} {P : D → Prop} : ∀ (l : List α) (env : Env), I env → (∀ x ∈ l, ∀ e, I e → ∃ e1 e2 d e3, g (item x) e = .ok e1 ∧ c e1 = .ok true e2 ∧ el e2 = .ok d e3 ∧ P d ∧ I (wipeD e3 vs)) →
    ∃ out env', fLcGo g c el vs (l.map item) env = .ok out env' ∧ out.length = l.length ∧ (∀ d ∈ out, P d) ∧ I env'
  | [], env, h, _ => ⟨[], env, rfl, rfl, fun _ h => (nomatch h), h⟩
  | x :: l, env, h, hs => by
    obtain ⟨e1, e2, d, e3, h1, h2, h3, h4, h5⟩ := hs x List.mem_cons_self env h
    obtain ⟨out, env', i1, i2, i3, i4⟩ := fLcGo_inv l (wipeD e3 vs) h5 (fun y hy => hs y (List.mem_cons_of_mem _ hy))
    refine ⟨d :: out, env', ?_, by simp [i2], fun y hy => ?_, i4⟩
    · rw [List.map_cons]
      unfold fLcGo
      rw [h1, nx_ok', R.ef_ok, RE.bind_ok, h2, nxE_ok', RE.bind_ok, if_pos rfl, h3, nxE_ok', RE.bind_ok, i1, RE.bind_ok]
    · rcases List.mem_cons.mp hy with rfl | hy
      · exact h4
      · exact i3 y hy
end DP


set_option Elab.async false
set_option linter.all false
set_option maxRecDepth 100000
set_option maxHeartbeats 4000000
namespace DP
open L2 Evl

/-! ### the evaluation set -/
@[simp] theorem pIs_non_non : pIs .non .non = .ok (.bl true) := rfl
@[simp] theorem pIsNot_non_non : pIsNot .non .non = .ok (.bl false) := rfl
@[simp] theorem pIs_non_bl (c : Bool) : pIs .non (.bl c) = .ok (.bl false) := rfl
@[simp] theorem pIs_bl_non (b : Bool) : pIs (.bl b) .non = .ok (.bl false) := rfl
@[simp] theorem pIsNot_bl_non (b : Bool) : pIsNot (.bl b) .non = .ok (.bl true) := rfl
@[simp] theorem pIs_bl_bl (b : Bool) (c : Bool) : pIs (.bl b) (.bl c) = .ok (.bl (b == c)) := rfl
@[simp] theorem pIs_int_non (i : Int) : pIs (.int i) .non = .ok (.bl false) := rfl
@[simp] theorem pIsNot_int_non (i : Int) : pIsNot (.int i) .non = .ok (.bl true) := rfl
@[simp] theorem pIs_int_bl (i : Int) (c : Bool) : pIs (.int i) (.bl c) = .ok (.bl false) := rfl
@[simp] theorem pIs_str_non (s : PySem.Str) : pIs (.str s) .non = .ok (.bl false) := rfl
@[simp] theorem pIsNot_str_non (s : PySem.Str) : pIsNot (.str s) .non = .ok (.bl true) := rfl
@[simp] theorem pIs_str_bl (s : PySem.Str) (c : Bool) : pIs (.str s) (.bl c) = .ok (.bl false) := rfl
@[simp] theorem pIs_con_non (o : Bool) (k : Kind) (l : List D) : pIs (.con o k l) .non = .ok (.bl false) := rfl
@[simp] theorem pIsNot_con_non (o : Bool) (k : Kind) (l : List D) : pIsNot (.con o k l) .non = .ok (.bl true) := rfl
@[simp] theorem pIs_con_bl (o : Bool) (k : Kind) (l : List D) (c : Bool) : pIs (.con o k l) (.bl c) = .ok (.bl false) := rfl
@[simp] theorem pLen_lst (o : Bool) (l : List D) : pLen [.con o .lst l] = .ok (.int l.length) := rfl
@[simp] theorem pLen_tup (o : Bool) (l : List D) : pLen [.con o .tup l] = .ok (.int l.length) := rfl
@[simp] theorem pLen_kls (o : Bool) (l : List D) : pLen [.con o .kls l] = .ok (.int l.length) := rfl
theorem pLen_str {s : PySem.Str} (h : s.length ≤ PySem.sizeLine) : pLen [.str s] = .ok (.int s.length) := by show (if s.length ≤ PySem.sizeLine then (.ok (.int s.length) : R D) else .stk) = _; rw [if_pos h]
@[simp] theorem tru_non : toTru .non = .ok false := rfl
@[simp] theorem tru_bl (b : Bool) : toTru (.bl b) = .ok b := rfl
@[simp] theorem tru_int (i : Int) : toTru (.int i) = .ok (i != 0) := rfl
@[simp] theorem tru_lst (o : Bool) (l : List D) : toTru (.con o .lst l) = .ok (!l.isEmpty) := rfl
@[simp] theorem tru_kls (o : Bool) (l : List D) : toTru (.con o .kls l) = .ok (!l.isEmpty) := rfl
@[simp] theorem tru_tup (o : Bool) (l : List D) : toTru (.con o .tup l) = .ok (!l.isEmpty) := rfl
@[simp] theorem isi_non (T : String) : pIsi T .non = .ok (.bl (isiB T "NoneType")) := rfl
@[simp] theorem isi_bl (T : String) (b : Bool) : pIsi T (.bl b) = .ok (.bl (isiB T "bool")) := rfl
@[simp] theorem isi_int (T : String) (i : Int) : pIsi T (.int i) = .ok (.bl (isiB T "int")) := rfl
@[simp] theorem isi_str (T : String) (s : PySem.Str) : pIsi T (.str s) = .ok (.bl (isiB T "str")) := rfl
@[simp] theorem isi_lst (T : String) (o : Bool) (l : List D) : pIsi T (.con o .lst l) = .ok (.bl (isiB T "list")) := rfl
@[simp] theorem isi_tup (T : String) (o : Bool) (l : List D) : pIsi T (.con o .tup l) = .ok (.bl (isiB T "tuple")) := rfl
@[simp] theorem pList_lst (o : Bool) (l : List D) : pList [.con o .lst l] = if shds l = true then .ok (.own l) else .stk := rfl
@[simp] theorem pList_kls (o : Bool) (l : List D) : pList [.con o .kls l] = if shds l = true then .ok (.own l) else .stk := rfl
@[simp] theorem pList_tup (o : Bool) (l : List D) : pList [.con o .tup l] = if shds l = true then .ok (.own l) else .stk := rfl
@[simp] theorem pTuple_lst (o : Bool) (l : List D) : pTuple [.con o .lst l] = if shds l = true then .ok (.tup l) else .stk := rfl
@[simp] theorem pTuple_tup (l : List D) : pTuple [.con false .tup l] = if shds l = true then .ok (.tup l) else .stk := rfl
theorem pSum_ints (o : Bool) (l : List Int) : pSum [.con o .lst (l.map D.int)] = .ok (.int l.sum) := by
  have e : (listOf (.con o .lst (l.map D.int))).bind intsOf = some l := intsOf_map l
  simp only [pSum, e]
/-- what a slot holds -/
def known : Option D → R D
  | some .unk => .stk
  | some d => .ok d
  | none => .stk
@[simp] theorem eP_known (i : Nat) (env : Env) : eP i env = known env[i]? := by
  unfold eP known
  cases env[i]? with
  | none => rfl
  | some d => cases d <;> rfl
@[simp] theorem known_none : known none = .stk := rfl
@[simp] theorem known_unk : known (some .unk) = .stk := rfl
@[simp] theorem known_non : known (some .non) = .ok .non := rfl
@[simp] theorem known_bl (b : Bool) : known (some (.bl b)) = .ok (.bl b) := rfl
@[simp] theorem known_int (i : Int) : known (some (.int i)) = .ok (.int i) := rfl
@[simp] theorem known_str (s : PySem.Str) : known (some (.str s)) = .ok (.str s) := rfl
@[simp] theorem known_con (o : Bool) (k : Kind) (l : List D) : known (some (.con o k l)) = .ok (.con o k l) := rfl
theorem known_ok {d : D} (h : d ≠ .unk) : known (some d) = .ok d := by cases d <;> first | rfl | exact absurd rfl h
@[simp] theorem add_int (i j : Int) : pAdd (.int i) (.int j) = .ok (.int (i + j)) := rfl
@[simp] theorem pIx_lst (o : Bool) (l : List D) (i : Int) : pIx (.con o .lst l) (.int i) = match L2.atI l i with
    | some d => .ok d
    | none => .stk := rfl
@[simp] theorem pIx_tup (o : Bool) (l : List D) (i : Int) : pIx (.con o .tup l) (.int i) = match L2.atI l i with
    | some d => .ok d
    | none => .stk := rfl
@[simp] theorem pIx_kls (o : Bool) (l : List D) (i : Int) : pIx (.con o .kls l) (.int i) = match L2.atI l i with
    | some d => .ok d
    | none => .stk := rfl
@[simp] theorem itL_lst (o : Bool) (l : List D) : itL (.con o .lst l) = if shds l = true then .ok l else .stk := rfl
@[simp] theorem itL_kls (o : Bool) (l : List D) : itL (.con o .kls l) = if shds l = true then .ok l else .stk := rfl
@[simp] theorem itT_tup (l : List D) : itT (.con false .tup l) = if shds l = true then .ok l else .stk := rfl
theorem itR1_nat {n : Nat} (h : n ≤ 100000) : itR1 [.int (n : Int)] = .ok ((List.range n).map fun i => .int (i : Nat)) := by
  have e : itR1 [.int (n : Int)] = if -(2 ^ 62) ≤ (n : Int) ∧ (n : Int) < 2 ^ 62 then .ok (rangeD 0 (n : Int).toNat) else .stk := rfl
  rw [e, if_pos ⟨by omega, by omega⟩]
  simp [sSeq, sForget, sIf, sSet, sRet, sPass, sCont, sBreak, sRetN, sDrop, sSetIx, sApp, sAsg, lf, eTest, eTru, toBl, eOp2, eV, eC, eSh, toShd, eFz, fFz, eIf, fIf, fTest, fOp2, eAnd, eOr, eNot, eAndV, eOrV, eNotV, eTup, eLst, eNil, eCons, fNil, fCons, fTup, fLst, eCB, fCB, eUn, pNeg, eSl, oNone, oSome, toIntO, pSub, pMul, pDiv, pMod, pPow, pLt, pLe, pGt, pGe, intOp, cT, cDiv, cMod, cPow, pAbs, pInt, pMax2, pMin2, plN, plIx, RPs, RPe, atP, getP, setP, setD, appD, okL, ixStep, eCall, eCallB, apN, fMv, fMvP, bName, bTup, bCons, bNil, wipeD, shd, frz, cIt, itE, eIsi, isiB, argsAt, restD, vsOk, Fl.val, nx, nxE, stp, isScal, updP, rangeD]
theorem itR1_int {n : Int} (h0 : 0 ≤ n) (h : n ≤ 100000) : itR1 [.int n] = .ok ((List.range n.toNat).map fun i => .int (i : Nat)) := by
  have := itR1_nat (n := n.toNat) (by omega)
  rwa [Int.toNat_of_nonneg h0] at this
theorem cItA_ok {g : List D → R (List D)} {f : Env → R (List D)} {env : Env} {l ds : List D} (h : f env = .ok l) (h2 : g l = .ok ds) : cItA g f env = .ok ds := by
  show (f env >>= g) = _
  rw [h, R.ok_bind]; exact h2
theorem rng1 {f : Env → R (List D)} {env : Env} {n : Nat} (h : f env = .ok [.int (n : Int)]) (hn : n ≤ 100000) : cItA itR1 f env = .ok ((List.range n).map fun i => .int (i : Nat)) := by
  show (f env >>= itR1) = _
  rw [h, R.ok_bind]
  exact itR1_nat hn
theorem rng1i {f : Env → R (List D)} {env : Env} {n : Int} (h : f env = .ok [.int n]) (h0 : 0 ≤ n) (hn : n ≤ 100000) : cItA itR1 f env = .ok ((List.range n.toNat).map fun i => .int (i : Nat)) := by
  show (f env >>= itR1) = _
  rw [h, R.ok_bind]
  exact itR1_int h0 hn
theorem atI_map {α β : Type} (f : α → β) (l : List α) (i : Int) : L2.atI (l.map f) i = (L2.atI l i).map f := by
  unfold L2.atI
  rw [List.length_map]
  cases L2.ixN l.length i with
  | none => rfl
  | some j => simp [sSeq, sForget, sIf, sSet, sRet, sPass, sCont, sBreak, sRetN, sDrop, sSetIx, sApp, sAsg, lf, eTest, eTru, toBl, eOp2, eV, eC, eSh, toShd, eFz, fFz, eIf, fIf, fTest, fOp2, eAnd, eOr, eNot, eAndV, eOrV, eNotV, eTup, eLst, eNil, eCons, fNil, fCons, fTup, fLst, eCB, fCB, eUn, pNeg, eSl, oNone, oSome, toIntO, pSub, pMul, pDiv, pMod, pPow, pLt, pLe, pGt, pGe, intOp, cT, cDiv, cMod, cPow, pAbs, pInt, pMax2, pMin2, plN, plIx, RPs, RPe, atP, getP, setP, setD, appD, okL, ixStep, eCall, eCallB, apN, fMv, fMvP, bName, bTup, bCons, bNil, wipeD, shd, frz, cIt, itE, eIsi, isiB, argsAt, restD, vsOk, Fl.val, nx, nxE, stp, isScal, updP]
theorem atI_some {α : Type} {l : List α} {i : Int} (h : 0 ≤ i) (h2 : i < l.length) : ∃ x, L2.atI l i = some x ∧ l[i.toNat]? = some x := by
  have h3 : i.toNat < l.length := by omega
  refine ⟨l[i.toNat], ?_, List.getElem?_eq_getElem h3⟩
  unfold L2.atI L2.ixN
  rw [if_pos h, if_pos h2]
  exact List.getElem?_eq_getElem h3
theorem atI_range {α : Type} {n k : Nat} {f : Nat → α} (h : k < n) : L2.atI ((List.range n).map f) (k : Int) = some (f k) := by
  unfold L2.atI L2.ixN
  simp [sSeq, sForget, sIf, sSet, sRet, sPass, sCont, sBreak, sRetN, sDrop, sSetIx, sApp, sAsg, lf, eTest, eTru, toBl, eOp2, eV, eC, eSh, toShd, eFz, fFz, eIf, fIf, fTest, fOp2, eAnd, eOr, eNot, eAndV, eOrV, eNotV, eTup, eLst, eNil, eCons, fNil, fCons, fTup, fLst, eCB, fCB, eUn, pNeg, eSl, oNone, oSome, toIntO, pSub, pMul, pDiv, pMod, pPow, pLt, pLe, pGt, pGe, intOp, cT, cDiv, cMod, cPow, pAbs, pInt, pMax2, pMin2, plN, plIx, RPs, RPe, atP, getP, setP, setD, appD, okL, ixStep, eCall, eCallB, apN, fMv, fMvP, bName, bTup, bCons, bNil, wipeD, shd, frz, cIt, itE, eIsi, isiB, argsAt, restD, vsOk, Fl.val, nx, nxE, stp, isScal, updP, h]
@[simp] theorem shds_nil : shds [] = true := rfl
@[simp] theorem shds_cons (d : D) (l : List D) : shds (d :: l) = (shd d && shds l) := rfl
@[simp] theorem frzs_nil : frzs [] = [] := rfl
@[simp] theorem frzs_cons (d : D) (l : List D) : frzs (d :: l) = frz d :: frzs l := rfl
@[simp] theorem shds_ints (l : List Int) : shds (l.map D.int) = true := by rw [shds_all]; simp [sSeq, sForget, sIf, sSet, sRet, sPass, sCont, sBreak, sRetN, sDrop, sSetIx, sApp, sAsg, lf, eTest, eTru, toBl, eOp2, eV, eC, eSh, toShd, eFz, fFz, eIf, fIf, fTest, fOp2, eAnd, eOr, eNot, eAndV, eOrV, eNotV, eTup, eLst, eNil, eCons, fNil, fCons, fTup, fLst, eCB, fCB, eUn, pNeg, eSl, oNone, oSome, toIntO, pSub, pMul, pDiv, pMod, pPow, pLt, pLe, pGt, pGe, intOp, cT, cDiv, cMod, cPow, pAbs, pInt, pMax2, pMin2, plN, plIx, RPs, RPe, atP, getP, setP, setD, appD, okL, ixStep, eCall, eCallB, apN, fMv, fMvP, bName, bTup, bCons, bNil, wipeD, shd, frz, cIt, itE, eIsi, isiB, argsAt, restD, vsOk, Fl.val, nx, nxE, stp, isScal, updP, List.all_map, Function.comp_def]
theorem sFor_ok {src : Env → R (List D)} {b : D → Env → R Env} {f : Env → Fl} {env : Env} {ds : List D} (h : src env = .ok ds) : sFor src b f env = forGo b f ds env := by unfold sFor; rw [h]
theorem eLc_ok {src : Env → R (List D)} {g : D → Env → R Env} {c : Env → R Bool} {el : Env → R D} {vs : List Nat} {env : Env} {ds out : List D} (h : src env = .ok ds) (hl : ds.length ≤ PySem.sizeLine) (h2 : lcGo g c el (wipeD env vs) ds = .ok out) : eLc src g c el vs env = .ok (.own out) := by
  unfold eLc; rw [h, R.ok_bind, if_pos hl, h2]; rfl
theorem fLc_ok {src : Env → R (List D)} {g : D → Env → R Env} {c : Ef Bool} {el : Ef D} {vs : List Nat} {env env1 : Env} {ds out : List D} (h : src env = .ok ds) (hl : ds.length ≤ PySem.sizeLine) (hv : vsOk env vs = true) (h2 : fLcGo g c el vs ds (wipeD env vs) = .ok out env1) : fLc src g c el vs env = .ok (.own out) (restD env env1 vs) := by
  unfold fLc; rw [h, R.ef_ok, RE.bind_ok, if_pos ⟨hl, hv⟩, h2]; rfl
theorem size_ok {n : Nat} (h : n ≤ 100000) : n ≤ PySem.sizeLine := sz_of h
@[simp] theorem rangeD_eq (n : Nat) : rangeD 0 n = (List.range n).map fun i => .int (i : Nat) := by unfold rangeD; simp [sSeq, sForget, sIf, sSet, sRet, sPass, sCont, sBreak, sRetN, sDrop, sSetIx, sApp, sAsg, lf, eTest, eTru, toBl, eOp2, eV, eC, eSh, toShd, eFz, fFz, eIf, fIf, fTest, fOp2, eAnd, eOr, eNot, eAndV, eOrV, eNotV, eTup, eLst, eNil, eCons, fNil, fCons, fTup, fLst, eCB, fCB, eUn, pNeg, eSl, oNone, oSome, toIntO, pSub, pMul, pDiv, pMod, pPow, pLt, pLe, pGt, pGe, intOp, cT, cDiv, cMod, cPow, pAbs, pInt, pMax2, pMin2, plN, plIx, RPs, RPe, atP, getP, setP, setD, appD, okL, ixStep, eCall, eCallB, apN, fMv, fMvP, bName, bTup, bCons, bNil, wipeD, shd, frz, cIt, itE, eIsi, isiB, argsAt, restD, vsOk, Fl.val, nx, nxE, stp, isScal, updP]
/-! #### _law_source -/
def b1_law_source : Env → Fl :=
  (sForget (sSet 2 (lf (eOp2 pMod (eOp2 pAdd (eOp2 pAdd (eOp2 pMul (eV 2) (eC (.int 1000033))) (eOp2 pMod (eCB pInt (eCons (eV 3) eNil)) (eC (.int 2147483629)))) (eC (.int 10007))) (eC (.int 2305843009213693951))))) [3])
def m_law_source : Env → Fl :=
  (sSeq (sSet 2 (lf (eC (.int 7))))
  (sSeq (sForget (sFor (cIt itL (eSl (eV 0) oNone (oSome (eC (.int 63))))) (bName 3) b1_law_source) [3])
  (sSeq (sSet 4 (lf (eIf (eTest (eOp2 pLt (eV 1) (eCB pLen (eCons (eV 0) eNil)))) (eOp2 pMod (eCB pAbs (eCons (eCB pInt (eCons (eOp2 pIx (eV 0) (eV 1)) eNil)) eNil)) (eOp2 pMul (eOp2 pPow (eC (.int 10)) (eC (.int 60))) (eOp2 pPow (eC (.int 10)) (eC (.int 60))))) (eC (.int 0)))))
  (sRet (lf (eLst (eCons (eIf (eTest (eOp2 pGe (eV 4) (eOp2 pPow (eC (.int 10)) (eC (.int 18))))) (eV 4) (eC (.int 0))) (eCons (eOp2 pMod (eOp2 pAdd (eV 2) (eOp2 pMul (eV 1) (eC (.int 104729)))) (eC (.int 2147483647))) (eCons (eOp2 pMod (eOp2 pDiv (eV 2) (eC (.int 2147483647))) (eC (.int 1000003))) eNil)))))))))
def f_law_source : List D → RE D := mkF 5 2 [2, 3, 4] m_law_source
/-! #### _law_pick -/
def m_law_pick : Env → Fl :=
  (sSeq (sForget (sIf (lf (eTest (eOp2 pGe (eOp2 pIx (eP 0) (eC (.int 0))) (eV 1))))
  (sSeq (sSet 2 (lf (eOp2 pMod (eOp2 pIx (eP 0) (eC (.int 0))) (eV 1))))
  (sSeq (sSetIx 0 (lf (eOp2 pDiv (eOp2 pIx (eP 0) (eC (.int 0))) (eV 1))) (plN 0) (lf (eC (.int 0))))
  (sRet (lf (eV 2)))))
  sPass) [2])
  (sSeq (sSetIx 0 (lf (eOp2 pAdd (eOp2 pIx (eP 0) (eC (.int 2))) (eC (.int 1)))) (plN 0) (lf (eC (.int 2))))
  (sSeq (sSet 3 (lf (eOp2 pMod (eOp2 pAdd (eOp2 pAdd (eOp2 pMul (eOp2 pIx (eP 0) (eC (.int 1))) (eC (.int 48271))) (eOp2 pMul (eOp2 pIx (eP 0) (eC (.int 2))) (eC (.int 69621)))) (eC (.int 11))) (eC (.int 2147483647)))))
  (sSeq (sSet 3 (lf (eOp2 pMod (eOp2 pAdd (eOp2 pAdd (eOp2 pMul (eV 3) (eV 3)) (eOp2 pMul (eOp2 pIx (eP 0) (eC (.int 2))) (eC (.int 40692)))) (eC (.int 5))) (eC (.int 2147483629)))))
  (sSeq (sSetIx 0 (lf (eV 3)) (plN 0) (lf (eC (.int 1))))
  (sRet (lf (eOp2 pMod (eOp2 pDiv (eV 3) (eC (.int 17))) (eV 1)))))))))
def f_law_pick : List D → RE D := mkF 4 2 [2, 3] m_law_pick
/-! #### _law_same -/
def b1_law_same (rec : List D → RE D) : Env → Fl :=
  (sForget (sIf (lf (eNot (eTru (eCall 2 rec (eCons (eOp2 pIx (eV 0) (eV 2)) (eCons (eOp2 pIx (eV 1) (eV 2)) eNil))))))
  (sRet (lf (eC (.bl false))))
  sPass) [2])
def m_law_same (rec : List D → RE D) : Env → Fl :=
  (sSeq (sIf (lf (eTest (eOp2 pIs (eV 1) (eC .non))))
  (sRet (lf (eOp2 pIs (eV 0) (eC .non))))
  sPass)
  (sSeq (sIf (lf (eTest (eOp2 pIs (eV 1) (eC (.bl true)))))
  (sRet (lf (eOp2 pIs (eV 0) (eC (.bl true)))))
  sPass)
  (sSeq (sIf (lf (eTest (eOp2 pIs (eV 1) (eC (.bl false)))))
  (sRet (lf (eOp2 pIs (eV 0) (eC (.bl false)))))
  sPass)
  (sSeq (sIf (lf (eTru (eIsi "int" (eV 1))))
  (sRet (lf (eAndV (eIsi "int" (eV 0)) (eAndV (eNotV (eIsi "bool" (eV 0))) (eOp2 pEq (eV 0) (eV 1))))))
  sPass)
  (sSeq (sIf (lf (eTru (eIsi "str" (eV 1))))
  (sRet (lf (eAndV (eIsi "str" (eV 0)) (eOp2 pEq (eV 0) (eV 1)))))
  sPass)
  (sSeq (sIf (lf (eAnd (eTru (eIsi "tuple" (eV 1))) (eNot (eTru (eIsi "tuple" (eV 0))))))
  (sRet (lf (eC (.bl false))))
  sPass)
  (sSeq (sIf (lf (eAnd (eTru (eIsi "list" (eV 1))) (eNot (eTru (eIsi "list" (eV 0))))))
  (sRet (lf (eC (.bl false))))
  sPass)
  (sSeq (sIf (lf (eTest (eOp2 pNe (eCB pLen (eCons (eV 0) eNil)) (eCB pLen (eCons (eV 1) eNil)))))
  (sRet (lf (eC (.bl false))))
  sPass)
  (sSeq (sForget (sFor (cItA itR1 (eCons (eCB pLen (eCons (eV 1) eNil)) eNil)) (bName 2) (b1_law_same rec)) [2])
  (sRet (lf (eC (.bl true)))))))))))))
def f_law_same : Nat → List D → RE D
  | 0 => fun _ => .stk
  | n + 1 => mkF 3 2 [2] (m_law_same (f_law_same n))

/-! ### the source -/
def IsS (s : D) : Prop := ∃ a b c : Int, s = .own [.int a, .int b, .int c] ∧ 0 ≤ a ∧ 0 ≤ b ∧ b < 2147483647 ∧ 0 ≤ c
theorem pick_spec {s : D} {m : Int} (hs : IsS s) (hm : 0 < m) (hm2 : m < 1073741824) : ∃ r s', f_law_pick [s, .int m] = .ok (.int r) [s', .int m] ∧ IsS s' ∧ 0 ≤ r ∧ r < m := by
  obtain ⟨a, b, c, rfl, ha, hb, hb2, hc⟩ := hs
  by_cases h : m ≤ a
  · refine ⟨a % m, .own [.int (a / m), .int b, .int c], ?_, ⟨a / m, b, c, rfl, Int.ediv_nonneg ha (by omega), hb, hb2, hc⟩, Int.emod_nonneg _ (by omega), Int.emod_lt_of_pos _ hm⟩
    simp [sSeq, sForget, sIf, sSet, sRet, sPass, sCont, sBreak, sRetN, sDrop, sSetIx, sApp, sAsg, lf, eTest, eTru, toBl, eOp2, eV, eC, eSh, toShd, eFz, fFz, eIf, fIf, fTest, fOp2, eAnd, eOr, eNot, eAndV, eOrV, eNotV, eTup, eLst, eNil, eCons, fNil, fCons, fTup, fLst, eCB, fCB, eUn, pNeg, eSl, oNone, oSome, toIntO, pSub, pMul, pDiv, pMod, pPow, pLt, pLe, pGt, pGe, intOp, cT, cDiv, cMod, cPow, pAbs, pInt, pMax2, pMin2, plN, plIx, RPs, RPe, atP, getP, setP, setD, appD, okL, ixStep, eCall, eCallB, apN, fMv, fMvP, bName, bTup, bCons, bNil, wipeD, shd, frz, cIt, itE, eIsi, isiB, argsAt, restD, vsOk, Fl.val, nx, nxE, stp, isScal, updP, f_law_pick, mkF, m_law_pick, h, hm, hm2, L2.atI, L2.ixN]
  · have hm' : cMul ((b * 48271 + (c + 1) * 69621 + 11) % 2147483647) ((b * 48271 + (c + 1) * 69621 + 11) % 2147483647) = true := by
      simp only [cMul, Bool.or_eq_true, decide_eq_true_eq]; left; left; omega
    have h1 : cMul b 48271 = true := by simp only [cMul, Bool.or_eq_true, decide_eq_true_eq]; left; left; omega
    have h2 : cMul (c + 1) 69621 = true := by simp only [cMul, Bool.or_eq_true, decide_eq_true_eq]; left; right; omega
    have h3 : cMul (c + 1) 40692 = true := by simp only [cMul, Bool.or_eq_true, decide_eq_true_eq]; left; right; omega
    refine ⟨((((b * 48271 + (c + 1) * 69621 + 11) % 2147483647) * ((b * 48271 + (c + 1) * 69621 + 11) % 2147483647) + (c + 1) * 40692 + 5) % 2147483629) / 17 % m, .own [.int a, .int ((((b * 48271 + (c + 1) * 69621 + 11) % 2147483647) * ((b * 48271 + (c + 1) * 69621 + 11) % 2147483647) + (c + 1) * 40692 + 5) % 2147483629), .int (c + 1)], ?_,
      ⟨a, _, c + 1, rfl, ha, Int.emod_nonneg _ (by omega), by have := Int.emod_lt_of_pos (((b * 48271 + (c + 1) * 69621 + 11) % 2147483647) * ((b * 48271 + (c + 1) * 69621 + 11) % 2147483647) + (c + 1) * 40692 + 5) (show (0 : Int) < 2147483629 by omega); omega, by omega⟩, Int.emod_nonneg _ (by omega), Int.emod_lt_of_pos _ hm⟩
    simp [sSeq, sForget, sIf, sSet, sRet, sPass, sCont, sBreak, sRetN, sDrop, sSetIx, sApp, sAsg, lf, eTest, eTru, toBl, eOp2, eV, eC, eSh, toShd, eFz, fFz, eIf, fIf, fTest, fOp2, eAnd, eOr, eNot, eAndV, eOrV, eNotV, eTup, eLst, eNil, eCons, fNil, fCons, fTup, fLst, eCB, fCB, eUn, pNeg, eSl, oNone, oSome, toIntO, pSub, pMul, pDiv, pMod, pPow, pLt, pLe, pGt, pGe, intOp, cT, cDiv, cMod, cPow, pAbs, pInt, pMax2, pMin2, plN, plIx, RPs, RPe, atP, getP, setP, setD, appD, okL, ixStep, eCall, eCallB, apN, fMv, fMvP, bName, bTup, bCons, bNil, wipeD, shd, frz, cIt, itE, eIsi, isiB, argsAt, restD, vsOk, Fl.val, nx, nxE, stp, isScal, updP, f_law_pick, mkF, m_law_pick, h, hm, L2.atI, L2.ixN, h1, h2, h3, hm']
theorem cutD_ints (ns : List Int) (lo hi : Option Int) : ∃ l : List Int, cutD (ns.map D.int) lo hi = l.map D.int ∧ l.length ≤ ns.length := by
  refine ⟨(ns.drop (HT.sIx ns.length 0 lo)).take (HT.sIx ns.length ns.length hi - HT.sIx ns.length 0 lo), ?_, ?_⟩
  · unfold cutD
    rw [List.length_map, List.map_take, List.map_drop]
  · rw [List.length_take, List.length_drop]; omega
@[simp] theorem big60 : cMul 1000000000000000000000000000000000000000000000000000000000000 1000000000000000000000000000000000000000000000000000000000000 = true := by decide +kernel
@[simp] theorem lg31 : Nat.log2 2147483647 < 9000 := by decide +kernel
theorem source_spec (ns : List Int) (k : Int) (hk : 0 ≤ k) (hk2 : k < 1000) (hl : ns.length ≤ 63) : ∃ s, (f_law_source [scr ns, .int k]).dr = .ok s ∧ IsS s := by
  obtain ⟨l, hcut, hll⟩ := cutD_ints ns none (some 63)
  unfold scr
  have hloop := forGo_fold (b := bName 3) (f := b1_law_source) (item := D.int) (E := fun fo : Int => [.con false .kls (ns.map D.int), .int k, .int fo, .unk, .unk]) (g := fun (fo x : Int) => (fo * 1000033 + x % 2147483629 + 10007) % 2305843009213693951) (I := fun fo => 0 ≤ fo ∧ fo < 2305843009213693951) l 7 (by omega) (fun x hx a ha => by
    have h1 : cMul a 1000033 = true := by simp only [cMul, Bool.or_eq_true, decide_eq_true_eq]; left; left; omega
    refine ⟨⟨Int.emod_nonneg _ (by omega), Int.emod_lt_of_pos _ (by omega)⟩, .inl ?_⟩
    simp [sSeq, sForget, sIf, sSet, sRet, sPass, sCont, sBreak, sRetN, sDrop, sSetIx, sApp, sAsg, lf, eTest, eTru, toBl, eOp2, eV, eC, eSh, toShd, eFz, fFz, eIf, fIf, fTest, fOp2, eAnd, eOr, eNot, eAndV, eOrV, eNotV, eTup, eLst, eNil, eCons, fNil, fCons, fTup, fLst, eCB, fCB, eUn, pNeg, eSl, oNone, oSome, toIntO, pSub, pMul, pDiv, pMod, pPow, pLt, pLe, pGt, pGe, intOp, cT, cDiv, cMod, cPow, pAbs, pInt, pMax2, pMin2, plN, plIx, RPs, RPe, atP, getP, setP, setD, appD, okL, ixStep, eCall, eCallB, apN, fMv, fMvP, bName, bTup, bCons, bNil, wipeD, shd, frz, cIt, itE, eIsi, isiB, argsAt, restD, vsOk, Fl.val, nx, nxE, stp, isScal, updP, b1_law_source, h1])
  obtain ⟨h1, h2, h3⟩ := hloop
  revert h1 h2 h3
  generalize l.foldl (fun (fo x : Int) => (fo * 1000033 + x % 2147483629 + 10007) % 2305843009213693951) 7 = fo
  intro h1 h2 h3
  have hloop2 : sFor (cIt itL (eSl (eV 0) oNone (oSome (eC (.int 63))))) (bName 3) b1_law_source [.con false .kls (ns.map D.int), .int k, .int 7, .unk, .unk] = .nx [.con false .kls (ns.map D.int), .int k, .int fo, .unk, .unk] := by
    rw [sFor_ok (ds := l.map D.int)]
    · exact h1
    · simp [sSeq, sForget, sIf, sSet, sRet, sPass, sCont, sBreak, sRetN, sDrop, sSetIx, sApp, sAsg, lf, eTest, eTru, toBl, eOp2, eV, eC, eSh, toShd, eFz, fFz, eIf, fIf, fTest, fOp2, eAnd, eOr, eNot, eAndV, eOrV, eNotV, eTup, eLst, eNil, eCons, fNil, fCons, fTup, fLst, eCB, fCB, eUn, pNeg, eSl, oNone, oSome, toIntO, pSub, pMul, pDiv, pMod, pPow, pLt, pLe, pGt, pGe, intOp, cT, cDiv, cMod, cPow, pAbs, pInt, pMax2, pMin2, plN, plIx, RPs, RPe, atP, getP, setP, setD, appD, okL, ixStep, eCall, eCallB, apN, fMv, fMvP, bName, bTup, bCons, bNil, wipeD, shd, frz, cIt, itE, eIsi, isiB, argsAt, restD, vsOk, Fl.val, nx, nxE, stp, isScal, updP, pSl, hcut]
  have hm : cMul k 104729 = true := by simp only [cMul, Bool.or_eq_true, decide_eq_true_eq]; left; left; omega
  have fin : ∀ a : Int, 0 ≤ a → (f_law_source [.con false .kls (ns.map D.int), .int k]).dr = .ok (.own [.int a, .int ((fo + k * 104729) % 2147483647), .int (fo / 2147483647 % 1000003)]) → ∃ s, (f_law_source [.con false .kls (ns.map D.int), .int k]).dr = .ok s ∧ IsS s := fun a ha h =>
    ⟨_, h, a, _, _, rfl, ha, Int.emod_nonneg _ (by decide), Int.emod_lt_of_pos _ (by decide), Int.emod_nonneg _ (by decide)⟩
  by_cases c : k < (ns.length : Int)
  · obtain ⟨x, hx⟩ : ∃ x, atI (ns.map D.int) k = some (.int x) := by
      obtain ⟨x, h1, _⟩ := atI_some hk c
      exact ⟨x, by rw [atI_map, h1]; rfl⟩
    have hp : 0 ≤ (if x < 0 then -x else x) % 1000000000000000000000000000000000000000000000000000000000000000000000000000000000000000000000000000000000000000000000000 := Int.emod_nonneg _ (by decide)
    by_cases c2 : 1000000000000000000 ≤ (if x < 0 then -x else x) % 1000000000000000000000000000000000000000000000000000000000000000000000000000000000000000000000000000000000000000000000000
    · refine fin _ hp ?_
      rw [f_law_source, mkF_dr]
      simp [sSeq, sForget, sIf, sSet, sRet, sPass, sCont, sBreak, sRetN, sDrop, sSetIx, sApp, sAsg, lf, eTest, eTru, toBl, eOp2, eV, eC, eSh, toShd, eFz, fFz, eIf, fIf, fTest, fOp2, eAnd, eOr, eNot, eAndV, eOrV, eNotV, eTup, eLst, eNil, eCons, fNil, fCons, fTup, fLst, eCB, fCB, eUn, pNeg, eSl, oNone, oSome, toIntO, pSub, pMul, pDiv, pMod, pPow, pLt, pLe, pGt, pGe, intOp, cT, cDiv, cMod, cPow, pAbs, pInt, pMax2, pMin2, plN, plIx, RPs, RPe, atP, getP, setP, setD, appD, okL, ixStep, eCall, eCallB, apN, fMv, fMvP, bName, bTup, bCons, bNil, wipeD, shd, frz, cIt, itE, eIsi, isiB, argsAt, restD, vsOk, Fl.val, nx, nxE, stp, isScal, updP, m_law_source, hloop2, hx, c, c2, hm, PySem.sizeLine]
    · refine fin 0 (Int.le_refl 0) ?_
      rw [f_law_source, mkF_dr]
      simp [sSeq, sForget, sIf, sSet, sRet, sPass, sCont, sBreak, sRetN, sDrop, sSetIx, sApp, sAsg, lf, eTest, eTru, toBl, eOp2, eV, eC, eSh, toShd, eFz, fFz, eIf, fIf, fTest, fOp2, eAnd, eOr, eNot, eAndV, eOrV, eNotV, eTup, eLst, eNil, eCons, fNil, fCons, fTup, fLst, eCB, fCB, eUn, pNeg, eSl, oNone, oSome, toIntO, pSub, pMul, pDiv, pMod, pPow, pLt, pLe, pGt, pGe, intOp, cT, cDiv, cMod, cPow, pAbs, pInt, pMax2, pMin2, plN, plIx, RPs, RPe, atP, getP, setP, setD, appD, okL, ixStep, eCall, eCallB, apN, fMv, fMvP, bName, bTup, bCons, bNil, wipeD, shd, frz, cIt, itE, eIsi, isiB, argsAt, restD, vsOk, Fl.val, nx, nxE, stp, isScal, updP, m_law_source, hloop2, hx, c, c2, hm, PySem.sizeLine]
  · refine fin 0 (Int.le_refl 0) ?_
    rw [f_law_source, mkF_dr]
    simp [sSeq, sForget, sIf, sSet, sRet, sPass, sCont, sBreak, sRetN, sDrop, sSetIx, sApp, sAsg, lf, eTest, eTru, toBl, eOp2, eV, eC, eSh, toShd, eFz, fFz, eIf, fIf, fTest, fOp2, eAnd, eOr, eNot, eAndV, eOrV, eNotV, eTup, eLst, eNil, eCons, fNil, fCons, fTup, fLst, eCB, fCB, eUn, pNeg, eSl, oNone, oSome, toIntO, pSub, pMul, pDiv, pMod, pPow, pLt, pLe, pGt, pGe, intOp, cT, cDiv, cMod, cPow, pAbs, pInt, pMax2, pMin2, plN, plIx, RPs, RPe, atP, getP, setP, setD, appD, okL, ixStep, eCall, eCallB, apN, fMv, fMvP, bName, bTup, bCons, bNil, wipeD, shd, frz, cIt, itE, eIsi, isiB, argsAt, restD, vsOk, Fl.val, nx, nxE, stp, isScal, updP, m_law_source, hloop2, c, hm, PySem.sizeLine]
/-- plain shared data -/
def pld : Nat → D → Bool
  | _, .non => true
  | _, .bl _ => true
  | _, .int _ => true
  | _, .str s => (PySem.PyData.str s).canLay0
  | n + 1, .con false .lst l => decide (l.length ≤ 100000) && l.all (pld n)
  | n + 1, .con false .tup l => decide (l.length ≤ 100000) && l.all (pld n)
  | _, _ => false
theorem pld_shd : ∀ {n : Nat} {d : D}, pld n d = true → shd d = true
  | _, .non, _ => rfl
  | _, .bl _, _ => rfl
  | _, .int _, _ => rfl
  | _, .str _, _ => rfl
  | _, .unk, _ => rfl
  | _, .rf _, _ => rfl
  | n + 1, .con false .lst l, h => by
    simp only [pld, Bool.and_eq_true] at h
    simp only [shd, Bool.not_false, Bool.true_and, shds_all]
    exact List.all_eq_true.mpr fun x hx => pld_shd (List.all_eq_true.mp h.2 x hx)
  | n + 1, .con false .tup l, h => by
    simp only [pld, Bool.and_eq_true] at h
    simp only [shd, Bool.not_false, Bool.true_and, shds_all]
    exact List.all_eq_true.mpr fun x hx => pld_shd (List.all_eq_true.mp h.2 x hx)
  | 0, .con o k l, h => by cases o <;> cases k <;> simp [sSeq, sForget, sIf, sSet, sRet, sPass, sCont, sBreak, sRetN, sDrop, sSetIx, sApp, sAsg, lf, eTest, eTru, toBl, eOp2, eV, eC, eSh, toShd, eFz, fFz, eIf, fIf, fTest, fOp2, eAnd, eOr, eNot, eAndV, eOrV, eNotV, eTup, eLst, eNil, eCons, fNil, fCons, fTup, fLst, eCB, fCB, eUn, pNeg, eSl, oNone, oSome, toIntO, pSub, pMul, pDiv, pMod, pPow, pLt, pLe, pGt, pGe, intOp, cT, cDiv, cMod, cPow, pAbs, pInt, pMax2, pMin2, plN, plIx, RPs, RPe, atP, getP, setP, setD, appD, okL, ixStep, eCall, eCallB, apN, fMv, fMvP, bName, bTup, bCons, bNil, wipeD, shd, frz, cIt, itE, eIsi, isiB, argsAt, restD, vsOk, Fl.val, nx, nxE, stp, isScal, updP, pld] at h
  | n + 1, .con true k l, h => by cases k <;> simp [sSeq, sForget, sIf, sSet, sRet, sPass, sCont, sBreak, sRetN, sDrop, sSetIx, sApp, sAsg, lf, eTest, eTru, toBl, eOp2, eV, eC, eSh, toShd, eFz, fFz, eIf, fIf, fTest, fOp2, eAnd, eOr, eNot, eAndV, eOrV, eNotV, eTup, eLst, eNil, eCons, fNil, fCons, fTup, fLst, eCB, fCB, eUn, pNeg, eSl, oNone, oSome, toIntO, pSub, pMul, pDiv, pMod, pPow, pLt, pLe, pGt, pGe, intOp, cT, cDiv, cMod, cPow, pAbs, pInt, pMax2, pMin2, plN, plIx, RPs, RPe, atP, getP, setP, setD, appD, okL, ixStep, eCall, eCallB, apN, fMv, fMvP, bName, bTup, bCons, bNil, wipeD, shd, frz, cIt, itE, eIsi, isiB, argsAt, restD, vsOk, Fl.val, nx, nxE, stp, isScal, updP, pld] at h
  | n + 1, .con false .kls l, h => by simp [sSeq, sForget, sIf, sSet, sRet, sPass, sCont, sBreak, sRetN, sDrop, sSetIx, sApp, sAsg, lf, eTest, eTru, toBl, eOp2, eV, eC, eSh, toShd, eFz, fFz, eIf, fIf, fTest, fOp2, eAnd, eOr, eNot, eAndV, eOrV, eNotV, eTup, eLst, eNil, eCons, fNil, fCons, fTup, fLst, eCB, fCB, eUn, pNeg, eSl, oNone, oSome, toIntO, pSub, pMul, pDiv, pMod, pPow, pLt, pLe, pGt, pGe, intOp, cT, cDiv, cMod, cPow, pAbs, pInt, pMax2, pMin2, plN, plIx, RPs, RPe, atP, getP, setP, setD, appD, okL, ixStep, eCall, eCallB, apN, fMv, fMvP, bName, bTup, bCons, bNil, wipeD, shd, frz, cIt, itE, eIsi, isiB, argsAt, restD, vsOk, Fl.val, nx, nxE, stp, isScal, updP, pld] at h
  | n + 1, .con false (.dct _) l, h => by simp [sSeq, sForget, sIf, sSet, sRet, sPass, sCont, sBreak, sRetN, sDrop, sSetIx, sApp, sAsg, lf, eTest, eTru, toBl, eOp2, eV, eC, eSh, toShd, eFz, fFz, eIf, fIf, fTest, fOp2, eAnd, eOr, eNot, eAndV, eOrV, eNotV, eTup, eLst, eNil, eCons, fNil, fCons, fTup, fLst, eCB, fCB, eUn, pNeg, eSl, oNone, oSome, toIntO, pSub, pMul, pDiv, pMod, pPow, pLt, pLe, pGt, pGe, intOp, cT, cDiv, cMod, cPow, pAbs, pInt, pMax2, pMin2, plN, plIx, RPs, RPe, atP, getP, setP, setD, appD, okL, ixStep, eCall, eCallB, apN, fMv, fMvP, bName, bTup, bCons, bNil, wipeD, shd, frz, cIt, itE, eIsi, isiB, argsAt, restD, vsOk, Fl.val, nx, nxE, stp, isScal, updP, pld] at h
  | n + 1, .con false (.dtt _) l, h => by simp [sSeq, sForget, sIf, sSet, sRet, sPass, sCont, sBreak, sRetN, sDrop, sSetIx, sApp, sAsg, lf, eTest, eTru, toBl, eOp2, eV, eC, eSh, toShd, eFz, fFz, eIf, fIf, fTest, fOp2, eAnd, eOr, eNot, eAndV, eOrV, eNotV, eTup, eLst, eNil, eCons, fNil, fCons, fTup, fLst, eCB, fCB, eUn, pNeg, eSl, oNone, oSome, toIntO, pSub, pMul, pDiv, pMod, pPow, pLt, pLe, pGt, pGe, intOp, cT, cDiv, cMod, cPow, pAbs, pInt, pMax2, pMin2, plN, plIx, RPs, RPe, atP, getP, setP, setD, appD, okL, ixStep, eCall, eCallB, apN, fMv, fMvP, bName, bTup, bCons, bNil, wipeD, shd, frz, cIt, itE, eIsi, isiB, argsAt, restD, vsOk, Fl.val, nx, nxE, stp, isScal, updP, pld] at h
  | n + 1, .con false (.obj _ _) l, h => by simp [sSeq, sForget, sIf, sSet, sRet, sPass, sCont, sBreak, sRetN, sDrop, sSetIx, sApp, sAsg, lf, eTest, eTru, toBl, eOp2, eV, eC, eSh, toShd, eFz, fFz, eIf, fIf, fTest, fOp2, eAnd, eOr, eNot, eAndV, eOrV, eNotV, eTup, eLst, eNil, eCons, fNil, fCons, fTup, fLst, eCB, fCB, eUn, pNeg, eSl, oNone, oSome, toIntO, pSub, pMul, pDiv, pMod, pPow, pLt, pLe, pGt, pGe, intOp, cT, cDiv, cMod, cPow, pAbs, pInt, pMax2, pMin2, plN, plIx, RPs, RPe, atP, getP, setP, setD, appD, okL, ixStep, eCall, eCallB, apN, fMv, fMvP, bName, bTup, bCons, bNil, wipeD, shd, frz, cIt, itE, eIsi, isiB, argsAt, restD, vsOk, Fl.val, nx, nxE, stp, isScal, updP, pld] at h
theorem pld_unk : ∀ {n : Nat} {d : D}, pld n d = true → d ≠ .unk := fun {n d} h z => by subst z; cases n <;> simp [sSeq, sForget, sIf, sSet, sRet, sPass, sCont, sBreak, sRetN, sDrop, sSetIx, sApp, sAsg, lf, eTest, eTru, toBl, eOp2, eV, eC, eSh, toShd, eFz, fFz, eIf, fIf, fTest, fOp2, eAnd, eOr, eNot, eAndV, eOrV, eNotV, eTup, eLst, eNil, eCons, fNil, fCons, fTup, fLst, eCB, fCB, eUn, pNeg, eSl, oNone, oSome, toIntO, pSub, pMul, pDiv, pMod, pPow, pLt, pLe, pGt, pGe, intOp, cT, cDiv, cMod, cPow, pAbs, pInt, pMax2, pMin2, plN, plIx, RPs, RPe, atP, getP, setP, setD, appD, okL, ixStep, eCall, eCallB, apN, fMv, fMvP, bName, bTup, bCons, bNil, wipeD, shd, frz, cIt, itE, eIsi, isiB, argsAt, restD, vsOk, Fl.val, nx, nxE, stp, isScal, updP, pld] at h
theorem same_step {rec : List D → RE D} {l : List D} {k : Kind} (hk : k = .lst ∨ k = .tup) (hs : shds l = true) {i : Nat} (hi' : i < l.length) (h1 : shd l[i] = true) (h2 : (rec [l[i], l[i]]).dr = .ok (.bl true)) :
    stp (bName 2) (b1_law_same rec) (.int (i : Nat)) [.con false k l, .con false k l, .unk] = .nx [.con false k l, .con false k l, .unk] := by
  have e : atI l (i : Int) = some l[i] := by
    unfold atI ixN
    rw [if_pos (by omega), if_pos (by omega)]
    simp [sSeq, sForget, sIf, sSet, sRet, sPass, sCont, sBreak, sRetN, sDrop, sSetIx, sApp, sAsg, lf, eTest, eTru, toBl, eOp2, eV, eC, eSh, toShd, eFz, fFz, eIf, fIf, fTest, fOp2, eAnd, eOr, eNot, eAndV, eOrV, eNotV, eTup, eLst, eNil, eCons, fNil, fCons, fTup, fLst, eCB, fCB, eUn, pNeg, eSl, oNone, oSome, toIntO, pSub, pMul, pDiv, pMod, pPow, pLt, pLe, pGt, pGe, intOp, cT, cDiv, cMod, cPow, pAbs, pInt, pMax2, pMin2, plN, plIx, RPs, RPe, atP, getP, setP, setD, appD, okL, ixStep, eCall, eCallB, apN, fMv, fMvP, bName, bTup, bCons, bNil, wipeD, shd, frz, cIt, itE, eIsi, isiB, argsAt, restD, vsOk, Fl.val, nx, nxE, stp, isScal, updP, hi']
  rcases hk with rfl | rfl <;> simp [sSeq, sForget, sIf, sSet, sRet, sPass, sCont, sBreak, sRetN, sDrop, sSetIx, sApp, sAsg, lf, eTest, eTru, toBl, eOp2, eV, eC, eSh, toShd, eFz, fFz, eIf, fIf, fTest, fOp2, eAnd, eOr, eNot, eAndV, eOrV, eNotV, eTup, eLst, eNil, eCons, fNil, fCons, fTup, fLst, eCB, fCB, eUn, pNeg, eSl, oNone, oSome, toIntO, pSub, pMul, pDiv, pMod, pPow, pLt, pLe, pGt, pGe, intOp, cT, cDiv, cMod, cPow, pAbs, pInt, pMax2, pMin2, plN, plIx, RPs, RPe, atP, getP, setP, setD, appD, okL, ixStep, eCall, eCallB, apN, fMv, fMvP, bName, bTup, bCons, bNil, wipeD, shd, frz, cIt, itE, eIsi, isiB, argsAt, restD, vsOk, Fl.val, nx, nxE, stp, isScal, updP, b1_law_same, hs, e, h1, h2]
theorem same_src {l : List D} {k : Kind} (hk : k = .lst ∨ k = .tup) (hl : l.length ≤ 100000) (hs : shds l = true) : cItA itR1 (eCons (eCB pLen (eCons (eV 1) eNil)) eNil) [.con false k l, .con false k l, .unk] = .ok ((List.range l.length).map fun i => .int (i : Nat)) := by
  have e1 : eCons (eCB pLen (eCons (eV 1) eNil)) eNil [.con false k l, .con false k l, .unk] = .ok [.int l.length] := by
    rcases hk with rfl | rfl <;> simp [sSeq, sForget, sIf, sSet, sRet, sPass, sCont, sBreak, sRetN, sDrop, sSetIx, sApp, sAsg, lf, eTest, eTru, toBl, eOp2, eV, eC, eSh, toShd, eFz, fFz, eIf, fIf, fTest, fOp2, eAnd, eOr, eNot, eAndV, eOrV, eNotV, eTup, eLst, eNil, eCons, fNil, fCons, fTup, fLst, eCB, fCB, eUn, pNeg, eSl, oNone, oSome, toIntO, pSub, pMul, pDiv, pMod, pPow, pLt, pLe, pGt, pGe, intOp, cT, cDiv, cMod, cPow, pAbs, pInt, pMax2, pMin2, plN, plIx, RPs, RPe, atP, getP, setP, setD, appD, okL, ixStep, eCall, eCallB, apN, fMv, fMvP, bName, bTup, bCons, bNil, wipeD, shd, frz, cIt, itE, eIsi, isiB, argsAt, restD, vsOk, Fl.val, nx, nxE, stp, isScal, updP, hs]
  show (eCons (eCB pLen (eCons (eV 1) eNil)) eNil [.con false k l, .con false k l, .unk] >>= itR1) = _
  rw [e1, R.ok_bind]
  exact itR1_nat hl
theorem same_loop {rec : List D → RE D} {l : List D} {k : Kind} (hk : k = .lst ∨ k = .tup) (hl : l.length ≤ 100000) (hs : shds l = true) (h : ∀ x ∈ l, shd x = true ∧ (rec [x, x]).dr = .ok (.bl true)) :
    sFor (cItA itR1 (eCons (eCB pLen (eCons (eV 1) eNil)) eNil)) (bName 2) (b1_law_same rec) [.con false k l, .con false k l, .unk] = .nx [.con false k l, .con false k l, .unk] := by
  rw [sFor_ok (same_src hk hl hs)]
  have := forGo_find (b := bName 2) (f := b1_law_same rec) (item := fun i : Nat => .int (i : Nat)) (E := [.con false k l, .con false k l, .unk]) (h := fun _ => none) (List.range l.length) (fun i hi => by
      have hi' : i < l.length := List.mem_range.mp hi
      obtain ⟨h1, h2⟩ := h l[i] (List.getElem_mem hi')
      exact .inl (same_step hk hs hi' h1 h2))
  have e2 : (List.range l.length).findSome? (fun _ : Nat => (none : Option D)) = none := by simp [sSeq, sForget, sIf, sSet, sRet, sPass, sCont, sBreak, sRetN, sDrop, sSetIx, sApp, sAsg, lf, eTest, eTru, toBl, eOp2, eV, eC, eSh, toShd, eFz, fFz, eIf, fIf, fTest, fOp2, eAnd, eOr, eNot, eAndV, eOrV, eNotV, eTup, eLst, eNil, eCons, fNil, fCons, fTup, fLst, eCB, fCB, eUn, pNeg, eSl, oNone, oSome, toIntO, pSub, pMul, pDiv, pMod, pPow, pLt, pLe, pGt, pGe, intOp, cT, cDiv, cMod, cPow, pAbs, pInt, pMax2, pMin2, plN, plIx, RPs, RPe, atP, getP, setP, setD, appD, okL, ixStep, eCall, eCallB, apN, fMv, fMvP, bName, bTup, bCons, bNil, wipeD, shd, frz, cIt, itE, eIsi, isiB, argsAt, restD, vsOk, Fl.val, nx, nxE, stp, isScal, updP]
  rw [e2] at this
  exact this
theorem same_refl : ∀ (n : Nat) (d : D), pld n d = true → (f_law_same (n + 1) [d, d]).dr = .ok (.bl true)
  | n, .non, _ => by rw [f_law_same, mkF_dr]; simp [sSeq, sForget, sIf, sSet, sRet, sPass, sCont, sBreak, sRetN, sDrop, sSetIx, sApp, sAsg, lf, eTest, eTru, toBl, eOp2, eV, eC, eSh, toShd, eFz, fFz, eIf, fIf, fTest, fOp2, eAnd, eOr, eNot, eAndV, eOrV, eNotV, eTup, eLst, eNil, eCons, fNil, fCons, fTup, fLst, eCB, fCB, eUn, pNeg, eSl, oNone, oSome, toIntO, pSub, pMul, pDiv, pMod, pPow, pLt, pLe, pGt, pGe, intOp, cT, cDiv, cMod, cPow, pAbs, pInt, pMax2, pMin2, plN, plIx, RPs, RPe, atP, getP, setP, setD, appD, okL, ixStep, eCall, eCallB, apN, fMv, fMvP, bName, bTup, bCons, bNil, wipeD, shd, frz, cIt, itE, eIsi, isiB, argsAt, restD, vsOk, Fl.val, nx, nxE, stp, isScal, updP, m_law_same]
  | n, .bl b, _ => by rw [f_law_same, mkF_dr]; cases b <;> simp [sSeq, sForget, sIf, sSet, sRet, sPass, sCont, sBreak, sRetN, sDrop, sSetIx, sApp, sAsg, lf, eTest, eTru, toBl, eOp2, eV, eC, eSh, toShd, eFz, fFz, eIf, fIf, fTest, fOp2, eAnd, eOr, eNot, eAndV, eOrV, eNotV, eTup, eLst, eNil, eCons, fNil, fCons, fTup, fLst, eCB, fCB, eUn, pNeg, eSl, oNone, oSome, toIntO, pSub, pMul, pDiv, pMod, pPow, pLt, pLe, pGt, pGe, intOp, cT, cDiv, cMod, cPow, pAbs, pInt, pMax2, pMin2, plN, plIx, RPs, RPe, atP, getP, setP, setD, appD, okL, ixStep, eCall, eCallB, apN, fMv, fMvP, bName, bTup, bCons, bNil, wipeD, shd, frz, cIt, itE, eIsi, isiB, argsAt, restD, vsOk, Fl.val, nx, nxE, stp, isScal, updP, m_law_same]
  | n, .int i, _ => by rw [f_law_same, mkF_dr]; simp [sSeq, sForget, sIf, sSet, sRet, sPass, sCont, sBreak, sRetN, sDrop, sSetIx, sApp, sAsg, lf, eTest, eTru, toBl, eOp2, eV, eC, eSh, toShd, eFz, fFz, eIf, fIf, fTest, fOp2, eAnd, eOr, eNot, eAndV, eOrV, eNotV, eTup, eLst, eNil, eCons, fNil, fCons, fTup, fLst, eCB, fCB, eUn, pNeg, eSl, oNone, oSome, toIntO, pSub, pMul, pDiv, pMod, pPow, pLt, pLe, pGt, pGe, intOp, cT, cDiv, cMod, cPow, pAbs, pInt, pMax2, pMin2, plN, plIx, RPs, RPe, atP, getP, setP, setD, appD, okL, ixStep, eCall, eCallB, apN, fMv, fMvP, bName, bTup, bCons, bNil, wipeD, shd, frz, cIt, itE, eIsi, isiB, argsAt, restD, vsOk, Fl.val, nx, nxE, stp, isScal, updP, m_law_same]
  | n, .str s, h => by
    have h' : (PySem.PyData.str s).canLay0 = true := by cases n <;> simpa [pld] using h
    rw [f_law_same, mkF_dr]; simp [sSeq, sForget, sIf, sSet, sRet, sPass, sCont, sBreak, sRetN, sDrop, sSetIx, sApp, sAsg, lf, eTest, eTru, toBl, eOp2, eV, eC, eSh, toShd, eFz, fFz, eIf, fIf, fTest, fOp2, eAnd, eOr, eNot, eAndV, eOrV, eNotV, eTup, eLst, eNil, eCons, fNil, fCons, fTup, fLst, eCB, fCB, eUn, pNeg, eSl, oNone, oSome, toIntO, pSub, pMul, pDiv, pMod, pPow, pLt, pLe, pGt, pGe, intOp, cT, cDiv, cMod, cPow, pAbs, pInt, pMax2, pMin2, plN, plIx, RPs, RPe, atP, getP, setP, setD, appD, okL, ixStep, eCall, eCallB, apN, fMv, fMvP, bName, bTup, bCons, bNil, wipeD, shd, frz, cIt, itE, eIsi, isiB, argsAt, restD, vsOk, Fl.val, nx, nxE, stp, isScal, updP, m_law_same, pEq_str h' h']
  | n + 1, .con false .lst l, h => by
    have hs := pld_shd h
    simp only [pld, Bool.and_eq_true, decide_eq_true_eq] at h
    simp only [shd, Bool.not_false, Bool.true_and] at hs
    have lp := same_loop (rec := f_law_same (n + 1)) (.inl rfl) h.1 hs (fun x hx => ⟨pld_shd (List.all_eq_true.mp h.2 x hx), same_refl n x (List.all_eq_true.mp h.2 x hx)⟩)
    rw [f_law_same, mkF_dr]
    simp [sSeq, sForget, sIf, sSet, sRet, sPass, sCont, sBreak, sRetN, sDrop, sSetIx, sApp, sAsg, lf, eTest, eTru, toBl, eOp2, eV, eC, eSh, toShd, eFz, fFz, eIf, fIf, fTest, fOp2, eAnd, eOr, eNot, eAndV, eOrV, eNotV, eTup, eLst, eNil, eCons, fNil, fCons, fTup, fLst, eCB, fCB, eUn, pNeg, eSl, oNone, oSome, toIntO, pSub, pMul, pDiv, pMod, pPow, pLt, pLe, pGt, pGe, intOp, cT, cDiv, cMod, cPow, pAbs, pInt, pMax2, pMin2, plN, plIx, RPs, RPe, atP, getP, setP, setD, appD, okL, ixStep, eCall, eCallB, apN, fMv, fMvP, bName, bTup, bCons, bNil, wipeD, shd, frz, cIt, itE, eIsi, isiB, argsAt, restD, vsOk, Fl.val, nx, nxE, stp, isScal, updP, m_law_same, hs, lp]
  | n + 1, .con false .tup l, h => by
    have hs := pld_shd h
    simp only [pld, Bool.and_eq_true, decide_eq_true_eq] at h
    simp only [shd, Bool.not_false, Bool.true_and] at hs
    have lp := same_loop (rec := f_law_same (n + 1)) (.inr rfl) h.1 hs (fun x hx => ⟨pld_shd (List.all_eq_true.mp h.2 x hx), same_refl n x (List.all_eq_true.mp h.2 x hx)⟩)
    rw [f_law_same, mkF_dr]
    simp [sSeq, sForget, sIf, sSet, sRet, sPass, sCont, sBreak, sRetN, sDrop, sSetIx, sApp, sAsg, lf, eTest, eTru, toBl, eOp2, eV, eC, eSh, toShd, eFz, fFz, eIf, fIf, fTest, fOp2, eAnd, eOr, eNot, eAndV, eOrV, eNotV, eTup, eLst, eNil, eCons, fNil, fCons, fTup, fLst, eCB, fCB, eUn, pNeg, eSl, oNone, oSome, toIntO, pSub, pMul, pDiv, pMod, pPow, pLt, pLe, pGt, pGe, intOp, cT, cDiv, cMod, cPow, pAbs, pInt, pMax2, pMin2, plN, plIx, RPs, RPe, atP, getP, setP, setD, appD, okL, ixStep, eCall, eCallB, apN, fMv, fMvP, bName, bTup, bCons, bNil, wipeD, shd, frz, cIt, itE, eIsi, isiB, argsAt, restD, vsOk, Fl.val, nx, nxE, stp, isScal, updP, m_law_same, hs, lp]
  | 0, .con o k l, h => by cases o <;> cases k <;> simp [sSeq, sForget, sIf, sSet, sRet, sPass, sCont, sBreak, sRetN, sDrop, sSetIx, sApp, sAsg, lf, eTest, eTru, toBl, eOp2, eV, eC, eSh, toShd, eFz, fFz, eIf, fIf, fTest, fOp2, eAnd, eOr, eNot, eAndV, eOrV, eNotV, eTup, eLst, eNil, eCons, fNil, fCons, fTup, fLst, eCB, fCB, eUn, pNeg, eSl, oNone, oSome, toIntO, pSub, pMul, pDiv, pMod, pPow, pLt, pLe, pGt, pGe, intOp, cT, cDiv, cMod, cPow, pAbs, pInt, pMax2, pMin2, plN, plIx, RPs, RPe, atP, getP, setP, setD, appD, okL, ixStep, eCall, eCallB, apN, fMv, fMvP, bName, bTup, bCons, bNil, wipeD, shd, frz, cIt, itE, eIsi, isiB, argsAt, restD, vsOk, Fl.val, nx, nxE, stp, isScal, updP, pld] at h
  | n + 1, .con true k l, h => by cases k <;> simp [sSeq, sForget, sIf, sSet, sRet, sPass, sCont, sBreak, sRetN, sDrop, sSetIx, sApp, sAsg, lf, eTest, eTru, toBl, eOp2, eV, eC, eSh, toShd, eFz, fFz, eIf, fIf, fTest, fOp2, eAnd, eOr, eNot, eAndV, eOrV, eNotV, eTup, eLst, eNil, eCons, fNil, fCons, fTup, fLst, eCB, fCB, eUn, pNeg, eSl, oNone, oSome, toIntO, pSub, pMul, pDiv, pMod, pPow, pLt, pLe, pGt, pGe, intOp, cT, cDiv, cMod, cPow, pAbs, pInt, pMax2, pMin2, plN, plIx, RPs, RPe, atP, getP, setP, setD, appD, okL, ixStep, eCall, eCallB, apN, fMv, fMvP, bName, bTup, bCons, bNil, wipeD, shd, frz, cIt, itE, eIsi, isiB, argsAt, restD, vsOk, Fl.val, nx, nxE, stp, isScal, updP, pld] at h
  | n + 1, .con false .kls l, h => by simp [sSeq, sForget, sIf, sSet, sRet, sPass, sCont, sBreak, sRetN, sDrop, sSetIx, sApp, sAsg, lf, eTest, eTru, toBl, eOp2, eV, eC, eSh, toShd, eFz, fFz, eIf, fIf, fTest, fOp2, eAnd, eOr, eNot, eAndV, eOrV, eNotV, eTup, eLst, eNil, eCons, fNil, fCons, fTup, fLst, eCB, fCB, eUn, pNeg, eSl, oNone, oSome, toIntO, pSub, pMul, pDiv, pMod, pPow, pLt, pLe, pGt, pGe, intOp, cT, cDiv, cMod, cPow, pAbs, pInt, pMax2, pMin2, plN, plIx, RPs, RPe, atP, getP, setP, setD, appD, okL, ixStep, eCall, eCallB, apN, fMv, fMvP, bName, bTup, bCons, bNil, wipeD, shd, frz, cIt, itE, eIsi, isiB, argsAt, restD, vsOk, Fl.val, nx, nxE, stp, isScal, updP, pld] at h
  | n + 1, .con false (.dct _) l, h => by simp [sSeq, sForget, sIf, sSet, sRet, sPass, sCont, sBreak, sRetN, sDrop, sSetIx, sApp, sAsg, lf, eTest, eTru, toBl, eOp2, eV, eC, eSh, toShd, eFz, fFz, eIf, fIf, fTest, fOp2, eAnd, eOr, eNot, eAndV, eOrV, eNotV, eTup, eLst, eNil, eCons, fNil, fCons, fTup, fLst, eCB, fCB, eUn, pNeg, eSl, oNone, oSome, toIntO, pSub, pMul, pDiv, pMod, pPow, pLt, pLe, pGt, pGe, intOp, cT, cDiv, cMod, cPow, pAbs, pInt, pMax2, pMin2, plN, plIx, RPs, RPe, atP, getP, setP, setD, appD, okL, ixStep, eCall, eCallB, apN, fMv, fMvP, bName, bTup, bCons, bNil, wipeD, shd, frz, cIt, itE, eIsi, isiB, argsAt, restD, vsOk, Fl.val, nx, nxE, stp, isScal, updP, pld] at h
  | n + 1, .con false (.dtt _) l, h => by simp [sSeq, sForget, sIf, sSet, sRet, sPass, sCont, sBreak, sRetN, sDrop, sSetIx, sApp, sAsg, lf, eTest, eTru, toBl, eOp2, eV, eC, eSh, toShd, eFz, fFz, eIf, fIf, fTest, fOp2, eAnd, eOr, eNot, eAndV, eOrV, eNotV, eTup, eLst, eNil, eCons, fNil, fCons, fTup, fLst, eCB, fCB, eUn, pNeg, eSl, oNone, oSome, toIntO, pSub, pMul, pDiv, pMod, pPow, pLt, pLe, pGt, pGe, intOp, cT, cDiv, cMod, cPow, pAbs, pInt, pMax2, pMin2, plN, plIx, RPs, RPe, atP, getP, setP, setD, appD, okL, ixStep, eCall, eCallB, apN, fMv, fMvP, bName, bTup, bCons, bNil, wipeD, shd, frz, cIt, itE, eIsi, isiB, argsAt, restD, vsOk, Fl.val, nx, nxE, stp, isScal, updP, pld] at h
  | n + 1, .con false (.obj _ _) l, h => by simp [sSeq, sForget, sIf, sSet, sRet, sPass, sCont, sBreak, sRetN, sDrop, sSetIx, sApp, sAsg, lf, eTest, eTru, toBl, eOp2, eV, eC, eSh, toShd, eFz, fFz, eIf, fIf, fTest, fOp2, eAnd, eOr, eNot, eAndV, eOrV, eNotV, eTup, eLst, eNil, eCons, fNil, fCons, fTup, fLst, eCB, fCB, eUn, pNeg, eSl, oNone, oSome, toIntO, pSub, pMul, pDiv, pMod, pPow, pLt, pLe, pGt, pGe, intOp, cT, cDiv, cMod, cPow, pAbs, pInt, pMax2, pMin2, plN, plIx, RPs, RPe, atP, getP, setP, setD, appD, okL, ixStep, eCall, eCallB, apN, fMv, fMvP, bName, bTup, bCons, bNil, wipeD, shd, frz, cIt, itE, eIsi, isiB, argsAt, restD, vsOk, Fl.val, nx, nxE, stp, isScal, updP, pld] at h
  | 0, .unk, h => by simp [sSeq, sForget, sIf, sSet, sRet, sPass, sCont, sBreak, sRetN, sDrop, sSetIx, sApp, sAsg, lf, eTest, eTru, toBl, eOp2, eV, eC, eSh, toShd, eFz, fFz, eIf, fIf, fTest, fOp2, eAnd, eOr, eNot, eAndV, eOrV, eNotV, eTup, eLst, eNil, eCons, fNil, fCons, fTup, fLst, eCB, fCB, eUn, pNeg, eSl, oNone, oSome, toIntO, pSub, pMul, pDiv, pMod, pPow, pLt, pLe, pGt, pGe, intOp, cT, cDiv, cMod, cPow, pAbs, pInt, pMax2, pMin2, plN, plIx, RPs, RPe, atP, getP, setP, setD, appD, okL, ixStep, eCall, eCallB, apN, fMv, fMvP, bName, bTup, bCons, bNil, wipeD, shd, frz, cIt, itE, eIsi, isiB, argsAt, restD, vsOk, Fl.val, nx, nxE, stp, isScal, updP, pld] at h
  | n + 1, .unk, h => by simp [sSeq, sForget, sIf, sSet, sRet, sPass, sCont, sBreak, sRetN, sDrop, sSetIx, sApp, sAsg, lf, eTest, eTru, toBl, eOp2, eV, eC, eSh, toShd, eFz, fFz, eIf, fIf, fTest, fOp2, eAnd, eOr, eNot, eAndV, eOrV, eNotV, eTup, eLst, eNil, eCons, fNil, fCons, fTup, fLst, eCB, fCB, eUn, pNeg, eSl, oNone, oSome, toIntO, pSub, pMul, pDiv, pMod, pPow, pLt, pLe, pGt, pGe, intOp, cT, cDiv, cMod, cPow, pAbs, pInt, pMax2, pMin2, plN, plIx, RPs, RPe, atP, getP, setP, setD, appD, okL, ixStep, eCall, eCallB, apN, fMv, fMvP, bName, bTup, bCons, bNil, wipeD, shd, frz, cIt, itE, eIsi, isiB, argsAt, restD, vsOk, Fl.val, nx, nxE, stp, isScal, updP, pld] at h
  | 0, .rf _, h => by simp [sSeq, sForget, sIf, sSet, sRet, sPass, sCont, sBreak, sRetN, sDrop, sSetIx, sApp, sAsg, lf, eTest, eTru, toBl, eOp2, eV, eC, eSh, toShd, eFz, fFz, eIf, fIf, fTest, fOp2, eAnd, eOr, eNot, eAndV, eOrV, eNotV, eTup, eLst, eNil, eCons, fNil, fCons, fTup, fLst, eCB, fCB, eUn, pNeg, eSl, oNone, oSome, toIntO, pSub, pMul, pDiv, pMod, pPow, pLt, pLe, pGt, pGe, intOp, cT, cDiv, cMod, cPow, pAbs, pInt, pMax2, pMin2, plN, plIx, RPs, RPe, atP, getP, setP, setD, appD, okL, ixStep, eCall, eCallB, apN, fMv, fMvP, bName, bTup, bCons, bNil, wipeD, shd, frz, cIt, itE, eIsi, isiB, argsAt, restD, vsOk, Fl.val, nx, nxE, stp, isScal, updP, pld] at h
  | n + 1, .rf _, h => by simp [sSeq, sForget, sIf, sSet, sRet, sPass, sCont, sBreak, sRetN, sDrop, sSetIx, sApp, sAsg, lf, eTest, eTru, toBl, eOp2, eV, eC, eSh, toShd, eFz, fFz, eIf, fIf, fTest, fOp2, eAnd, eOr, eNot, eAndV, eOrV, eNotV, eTup, eLst, eNil, eCons, fNil, fCons, fTup, fLst, eCB, fCB, eUn, pNeg, eSl, oNone, oSome, toIntO, pSub, pMul, pDiv, pMod, pPow, pLt, pLe, pGt, pGe, intOp, cT, cDiv, cMod, cPow, pAbs, pInt, pMax2, pMin2, plN, plIx, RPs, RPe, atP, getP, setP, setD, appD, okL, ixStep, eCall, eCallB, apN, fMv, fMvP, bName, bTup, bCons, bNil, wipeD, shd, frz, cIt, itE, eIsi, isiB, argsAt, restD, vsOk, Fl.val, nx, nxE, stp, isScal, updP, pld] at h
end DP


set_option Elab.async false
set_option linter.all false
set_option maxRecDepth 100000
set_option maxHeartbeats 4000000
namespace K14
open DP
/-! #### mixed_column -/
def b1_mixed_column : Env → Fl :=
  (sForget (sSeq (sSet 2 (lf (eFz (eLc (cItA itE (eCons (eV 0) eNil)) (bTup 2 (bCons (bName 4) (bCons (bName 5) bNil))) (eTest (eOp2 pIsNot (eOp2 pIx (eV 5) (eV 1)) (eC .non))) (eV 4) [4, 5]))))
  (sForget (sIf (lf (eAnd (eTru (eV 2)) (eTest (eOp2 pLt (eCB pLen (eCons (eV 2) eNil)) (eCB pLen (eCons (eV 0) eNil))))))
  (sSeq (sSet 3 (lf (eFz (eLc (cItA itE (eCons (eV 0) eNil)) (bTup 2 (bCons (bName 4) (bCons (bName 5) bNil))) (eTest (eOp2 pIs (eOp2 pIx (eV 5) (eV 1)) (eC .non))) (eV 4) [4, 5]))))
  (sRet (lf (eTup (eCons (eV 1) (eCons (eOp2 pIx (eV 2) (eC (.int 0))) (eCons (eOp2 pIx (eV 3) (eC (.int 0))) eNil)))))))
  sPass) [3])) [1, 2, 3])
def m_mixed_column : Env → Fl :=
  (sSeq (sForget (sFor (cItA itR1 (eCons (eCB pLen (eCons (eV 0) eNil)) eNil)) (bName 1) b1_mixed_column) [1, 2, 3])
  (sRet (lf (eC .non))))
def f_mixed_column : List D → RE D := mkF 6 1 [1, 2, 3] m_mixed_column
/-! #### number_columns -/
def m_number_columns : Env → Fl :=
  (sRet (lf (eLc (cItA itE (eCons (eOp2 pIx (eV 0) (eC (.int 0))) eNil)) (bTup 2 (bCons (bName 1) (bCons (bName 2) bNil))) (eTest (eOp2 pIsNot (eV 2) (eC .non))) (eV 1) [1, 2])))
def f_number_columns : List D → RE D := mkF 3 1 [] m_number_columns
/-! #### spread_of -/
def b1_spread_of : Env → Fl :=
  (sForget (sSeq (sSet 6 (lf (eFz (eLc (cIt itL (eV 1)) (bName 7) eYes (eOp2 pSub (eOp2 pIx (eV 4) (eV 7)) (eOp2 pIx (eV 5) (eV 7))) [7]))))
  (sSet 2 (lf (eCB pMax2 (eCons (eV 2) (eCons (eOp2 pSub (eCB pMaxL (eCons (eV 6) eNil)) (eCB pMinL (eCons (eV 6) eNil))) eNil)))))) [5, 6])
def b2_spread_of : Env → Fl :=
  (sForget (sForget (sFor (cIt itL (eSl (eV 0) oNone (oSome (eV 3)))) (bName 5) b1_spread_of) [5, 6]) [3, 4, 5, 6])
def m_spread_of : Env → Fl :=
  (sSeq (sIf (lf (eTest (eOp2 pIsNot (eCall 1 f_mixed_column (eCons (eV 0) eNil)) (eC .non))))
  (sRet (lf (eC (.str "endless"))))
  sPass)
  (sSeq (sSet 1 (lf (eFz (eCall 1 f_number_columns (eCons (eV 0) eNil)))))
  (sSeq (sSet 2 (lf (eC (.int 0))))
  (sSeq (sForget (sFor (cItA itE (eCons (eV 0) eNil)) (bTup 2 (bCons (bName 3) (bCons (bName 4) bNil))) b2_spread_of) [3, 4, 5, 6])
  (sRet (lf (eV 2)))))))
def f_spread_of : List D → RE D := mkF 8 1 [1, 2, 3, 4, 5, 6] m_spread_of
/-! #### row_sums -/
def b1_row_sums : Env → Fl :=
  (sForget (sIf (lf (eTest (eOp2 pNe (eOp2 pIx (eV 6) (eV 7)) (eOp2 pAdd (eOp2 pIx (eP 3) (eV 5)) (eOp2 pIx (eP 4) (eV 7))))))
  (sRet (lf (eC .non)))
  sPass) [7])
def b2_row_sums : Env → Fl :=
  (sForget (sForget (sFor (cIt itL (eV 1)) (bName 7) b1_row_sums) [7]) [5, 6, 7])
def m_row_sums : Env → Fl :=
  (sSeq (sIf (lf (eTest (eOp2 pIsNot (eCall 1 f_mixed_column (eCons (eV 0) eNil)) (eC .non))))
  (sRet (lf (eC .non)))
  sPass)
  (sSeq (sSet 1 (lf (eFz (eCall 1 f_number_columns (eCons (eV 0) eNil)))))
  (sSeq (sSet 2 (lf (eOp2 pIx (eV 1) (eC (.int 0)))))
  (sSeq (sSet 3 (lf (eLc (cIt itL (eV 0)) (bName 6) eYes (eOp2 pSub (eOp2 pIx (eV 6) (eV 2)) (eOp2 pIx (eOp2 pIx (eV 0) (eC (.int 0))) (eV 2))) [6])))
  (sSeq (sSet 4 (lf (eCB pList (eCons (eOp2 pIx (eV 0) (eC (.int 0))) eNil))))
  (sSeq (sForget (sFor (cItA itE (eCons (eV 0) eNil)) (bTup 2 (bCons (bName 5) (bCons (bName 6) bNil))) b2_row_sums) [5, 6, 7])
  (sRet (fTup (fCons (fMv 3) (fCons (fMv 4) fNil))))))))))
def f_row_sums : List D → RE D := mkF 8 1 [1, 2, 3, 4, 5, 6, 7] m_row_sums
/-! #### gap_from -/
def b1_gap_from : Env → Fl :=
  (sForget (sIf (lf (eTest (eOp2 pLt (eOp2 pAdd (eOp2 pIx (eV 4) (eV 3)) (eOp2 pIx (eV 6) (eV 7))) (eOp2 pAdd (eOp2 pIx (eV 4) (eV 7)) (eOp2 pIx (eV 6) (eV 3))))))
  (sRet (lf (eTup (eCons (eV 5) (eCons (eV 7) eNil)))))
  sPass) [7])
def b2_gap_from : Env → Fl :=
  (sForget (sForget (sFor (cIt itL (eV 1)) (bName 7) b1_gap_from) [7]) [5, 6, 7])
def m_gap_from : Env → Fl :=
  (sSeq (sSet 4 (lf (eOp2 pIx (eV 0) (eV 2))))
  (sSeq (sForget (sFor (cItA itE (eCons (eV 0) eNil)) (bTup 2 (bCons (bName 5) (bCons (bName 6) bNil))) b2_gap_from) [5, 6, 7])
  (sRet (lf (eC .non)))))
def f_gap_from : List D → RE D := mkF 8 4 [4, 5, 6, 7] m_gap_from
/-! #### least_gap -/
def b1_least_gap : Env → Fl :=
  (sForget (sSeq (sSet 4 (lf (eFz (eCall 4 f_gap_from (eCons (eV 0) (eCons (eV 1) (eCons (eV 2) (eCons (eV 3) eNil))))))))
  (sIf (lf (eTest (eOp2 pIsNot (eV 4) (eC .non))))
  (sRet (lf (eTup (eCons (eV 2) (eCons (eV 3) (eCons (eOp2 pIx (eV 4) (eC (.int 0))) (eCons (eOp2 pIx (eV 4) (eC (.int 1))) eNil)))))))
  sPass)) [3, 4])
def b2_least_gap : Env → Fl :=
  (sForget (sForget (sFor (cIt itL (eV 1)) (bName 3) b1_least_gap) [3, 4]) [2, 3, 4])
def m_least_gap : Env → Fl :=
  (sSeq (sSet 1 (lf (eFz (eCall 1 f_number_columns (eCons (eV 0) eNil)))))
  (sSeq (sForget (sFor (cItA itR1 (eCons (eCB pLen (eCons (eV 0) eNil)) eNil)) (bName 2) b2_least_gap) [2, 3, 4])
  (sRet (lf (eC .non)))))
def f_least_gap : List D → RE D := mkF 5 1 [1, 2, 3, 4] m_least_gap
/-! #### wall_of -/
def m_wall_of : Env → Fl :=
  (sSeq (sSet 1 (lf (eCall 1 f_row_sums (eCons (eV 0) eNil))))
  (sSeq (sIf (lf (eTest (eOp2 pIsNot (eP 1) (eC .non))))
  (sRet (fTup (fCons (lf (eC (.str "wall"))) (fCons (fMvP 1 (plIx 1 (plN 1) (eC (.int 0)))) (fCons (fMvP 1 (plIx 1 (plN 1) (eC (.int 1)))) fNil)))))
  sPass)
  (sSeq (sSet 2 (lf (eFz (eCall 1 f_mixed_column (eCons (eV 0) eNil)))))
  (sSeq (sIf (lf (eTest (eOp2 pIsNot (eV 2) (eC .non))))
  (sRet (lf (eTup (eCons (eC (.str "column")) (eCons (eOp2 pIx (eV 2) (eC (.int 0))) (eCons (eOp2 pIx (eV 2) (eC (.int 1))) (eCons (eOp2 pIx (eV 2) (eC (.int 2))) eNil)))))))
  sPass)
  (sSeq (sSet 3 (lf (eFz (eCall 1 f_least_gap (eCons (eV 0) eNil)))))
  (sRet (lf (eTup (eCons (eC (.str "gap")) (eCons (eOp2 pIx (eV 3) (eC (.int 0))) (eCons (eOp2 pIx (eV 3) (eC (.int 1))) (eCons (eOp2 pIx (eV 3) (eC (.int 2))) (eCons (eOp2 pIx (eV 3) (eC (.int 3))) eNil)))))))))))))
def f_wall_of : List D → RE D := mkF 4 1 [1, 2, 3] m_wall_of
/-! #### _law_d_sum_table -/
def m_law_d_sum_table : Env → Fl :=
  (sSeq (sSet 3 (fFz (fLc (cItA itR1 (eCons (eV 1) eNil)) (bName 5) fYes (fCallM 0 2 f_law_pick (fCons (lf (eOp2 pAdd (eV 2) (eC (.int 1)))) fNil)) [5])))
  (sSeq (sSet 4 (fLc (cItA itR1 (eCons (eV 1) eNil)) (bName 5) fYes (fIf (fTest (fOp2 pGt (fCallM 0 2 f_law_pick (fCons (lf (eC (.int 5))) fNil)) (lf (eC (.int 0))))) (fCallM 0 2 f_law_pick (fCons (lf (eOp2 pAdd (eV 2) (eC (.int 1)))) fNil)) (lf (eC .non))) [5]))
  (sSeq (sIf (lf (eTest (eOp2 pEq (eLc (cIt itL (eP 4)) (bName 6) (eTest (eOp2 pIsNot (eV 6) (eC .non))) (eV 6) [6]) (eLst eNil))))
  (sSetIx 4 (fCallM 0 2 f_law_pick (fCons (lf (eOp2 pAdd (eV 2) (eC (.int 1)))) fNil)) (plN 4) (fCallM 0 2 f_law_pick (fCons (lf (eV 1)) fNil)))
  sPass)
  (sRet (lf (eLc (cItA itR1 (eCons (eV 1) eNil)) (bName 6) eYes (eLc (cItA itR1 (eCons (eV 1) eNil)) (bName 7) eYes (eIf (eTest (eOp2 pIs (eOp2 pIx (eP 4) (eV 7)) (eC .non))) (eC .non) (eOp2 pAdd (eOp2 pIx (eV 3) (eV 6)) (eOp2 pIx (eP 4) (eV 7)))) [7]) [6]))))))
def f_law_d_sum_table : List D → RE D := mkF 8 3 [3, 4] m_law_d_sum_table
/-! #### _law_d_drawn_table -/
def b1_law_d_drawn_table : Env → Fl :=
  (sForget (sSetIx 4 (fCallM 0 2 f_law_pick (fCons (lf (eOp2 pAdd (eV 2) (eC (.int 1)))) fNil)) (plIx 4 (plN 4) (eV 9)) (lf (eV 8))) [9])
def b2_law_d_drawn_table : Env → Fl :=
  (sForget (sForget (sFor (cItA itR1 (eCons (eV 1) eNil)) (bName 9) b1_law_d_drawn_table) [9]) [8, 9])
def m_law_d_drawn_table : Env → Fl :=
  (sSeq (sSet 1 (fOp2 pAdd (lf (eC (.int 1))) (fCallM 0 2 f_law_pick (fCons (lf (eC (.int 6))) fNil))))
  (sSeq (sSet 2 (fIf (fTest (fOp2 pEq (fCallM 0 2 f_law_pick (fCons (lf (eC (.int 6))) fNil)) (lf (eC (.int 0))))) (lf (eC (.int 100000000))) (lf (eC (.int 4)))))
  (sSeq (sSet 3 (fCallM 0 2 f_law_pick (fCons (lf (eC (.int 6))) fNil)))
  (sSeq (sSet 4 (fCallM 0 3 f_law_d_sum_table (fCons (lf (eV 1)) (fCons (lf (eV 2)) fNil))))
  (sSeq (sIf (lf (eTest (eOp2 pLt (eV 3) (eC (.int 3)))))
  (sRet (fMv 4))
  sPass)
  (sSeq (sSet 5 (fCallM 0 2 f_law_pick (fCons (lf (eV 1)) fNil)))
  (sSeq (sSet 6 (lf (eFz (eLc (cItA itR1 (eCons (eV 1) eNil)) (bName 7) (eTest (eOp2 pIsNot (eOp2 pIx (eOp2 pIx (eP 4) (eC (.int 0))) (eV 7)) (eC .non))) (eV 7) [7]))))
  (sSeq (sSet 7 (fFz (fOp2 pIx (lf (eV 6)) (fCallM 0 2 f_law_pick (fCons (lf (eCB pLen (eCons (eV 6) eNil))) fNil)))))
  (sSeq (sIf (lf (eTest (eOp2 pEq (eV 3) (eC (.int 3)))))
  (sSetIx 4 (fOp2 pAdd (lf (eOp2 pAdd (eOp2 pIx (eOp2 pIx (eP 4) (eV 5)) (eV 7)) (eC (.int 1)))) (fCallM 0 2 f_law_pick (fCons (lf (eV 2)) fNil))) (plIx 4 (plN 4) (eV 5)) (lf (eV 7)))
  sPass)
  (sSeq (sIf (lf (eAnd (eTest (eOp2 pEq (eV 3) (eC (.int 4)))) (eTest (eOp2 pGt (eCB pLen (eCons (eV 6) eNil)) (eC (.int 1))))))
  (sSetIx 4 (lf (eC .non)) (plIx 4 (plN 4) (eV 5)) (lf (eV 7)))
  sPass)
  (sSeq (sForget (sIf (lf (eTest (eOp2 pEq (eV 3) (eC (.int 5)))))
  (sForget (sFor (cIt itL (eV 6)) (bName 8) b2_law_d_drawn_table) [8, 9])
  sPass) [8, 9])
  (sRet (fMv 4)))))))))))))
def f_law_d_drawn_table : List D → RE D := mkF 10 1 [1, 2, 3, 4, 5, 6, 7, 8, 9] m_law_d_drawn_table
/-! #### _law_d_gaps -/
def b1_law_d_gaps : Env → Fl :=
  (sForget (sSeq (sIf (lf (eTest (eOp2 pIs (eOp2 pIx (eOp2 pIx (eV 0) (eV 4)) (eV 7)) (eC .non))))
  sCont
  sPass)
  (sSeq (sSet 8 (lf (eOp2 pSub (eOp2 pSub (eOp2 pAdd (eOp2 pIx (eOp2 pIx (eV 0) (eV 4)) (eV 7)) (eOp2 pIx (eOp2 pIx (eV 0) (eV 6)) (eV 5))) (eOp2 pIx (eOp2 pIx (eV 0) (eV 4)) (eV 5))) (eOp2 pIx (eOp2 pIx (eV 0) (eV 6)) (eV 7)))))
  (sSeq (sIf (lf (eAnd (eTest (eOp2 pGt (eV 8) (eC (.int 0)))) (eTest (eOp2 pIs (eV 3) (eC .non)))))
  (sSet 3 (lf (eFz (eTup (eCons (eV 4) (eCons (eV 5) (eCons (eV 6) (eCons (eV 7) eNil))))))))
  sPass)
  (sSet 2 (lf (eCB pMax2 (eCons (eV 2) (eCons (eV 8) eNil)))))))) [7, 8])
def b2_law_d_gaps : Env → Fl :=
  (sForget (sForget (sFor (cItA itR1 (eCons (eV 1) eNil)) (bName 7) b1_law_d_gaps) [7, 8]) [6, 7, 8])
def b3_law_d_gaps : Env → Fl :=
  (sForget (sSeq (sIf (lf (eTest (eOp2 pIs (eOp2 pIx (eOp2 pIx (eV 0) (eV 4)) (eV 5)) (eC .non))))
  sCont
  sPass)
  (sForget (sFor (cItA itR1 (eCons (eV 1) eNil)) (bName 6) b2_law_d_gaps) [6, 7, 8])) [5, 6, 7, 8])
def b4_law_d_gaps : Env → Fl :=
  (sForget (sForget (sFor (cItA itR1 (eCons (eV 1) eNil)) (bName 5) b3_law_d_gaps) [5, 6, 7, 8]) [4, 5, 6, 7, 8])
def m_law_d_gaps : Env → Fl :=
  (sSeq (sSet 1 (lf (eCB pLen (eCons (eV 0) eNil))))
  (sSeq (sSet 2 (lf (eC (.int 0))))
  (sSeq (sSet 3 (lf (eC .non)))
  (sSeq (sForget (sFor (cItA itR1 (eCons (eV 1) eNil)) (bName 4) b4_law_d_gaps) [4, 5, 6, 7, 8])
  (sRet (lf (eTup (eCons (eV 2) (eCons (eV 3) eNil)))))))))
def f_law_d_gaps : List D → RE D := mkF 9 1 [1, 2, 3, 4, 5, 6, 7, 8] m_law_d_gaps
/-! #### _law_d_due -/
def b1_law_d_due : Env → Fl :=
  (sForget (sSeq (sSet 3 (lf (eFz (eLc (cItA itR1 (eCons (eV 1) eNil)) (bName 7) (eTest (eOp2 pIs (eOp2 pIx (eOp2 pIx (eV 0) (eV 7)) (eV 2)) (eC .non))) (eV 7) [7]))))
  (sSeq (sSet 4 (lf (eFz (eLc (cItA itR1 (eCons (eV 1) eNil)) (bName 7) (eTest (eOp2 pIsNot (eOp2 pIx (eOp2 pIx (eV 0) (eV 7)) (eV 2)) (eC .non))) (eV 7) [7]))))
  (sIf (lf (eAnd (eTest (eOp2 pNe (eV 3) (eLst eNil))) (eTest (eOp2 pNe (eV 4) (eLst eNil)))))
  (sRet (lf (eTup (eCons (eTup (eCons (eC (.str "column")) (eCons (eV 2) (eCons (eOp2 pIx (eV 4) (eC (.int 0))) (eCons (eOp2 pIx (eV 3) (eC (.int 0))) eNil))))) (eCons (eC (.str "endless")) eNil)))))
  sPass))) [2, 3, 4])
def m_law_d_due : Env → Fl :=
  (sSeq (sSet 1 (lf (eCB pLen (eCons (eV 0) eNil))))
  (sSeq (sForget (sFor (cItA itR1 (eCons (eV 1) eNil)) (bName 2) b1_law_d_due) [2, 3, 4])
  (sSeq (sSet 5 (lf (eFz (eCall 1 f_law_d_gaps (eCons (eV 0) eNil)))))
  (sSeq (sIf (lf (eTest (eOp2 pIsNot (eOp2 pIx (eV 5) (eC (.int 1))) (eC .non))))
  (sRet (lf (eTup (eCons (eTup (eCons (eC (.str "gap")) (eCons (eOp2 pIx (eOp2 pIx (eV 5) (eC (.int 1))) (eC (.int 0))) (eCons (eOp2 pIx (eOp2 pIx (eV 5) (eC (.int 1))) (eC (.int 1))) (eCons (eOp2 pIx (eOp2 pIx (eV 5) (eC (.int 1))) (eC (.int 2))) (eCons (eOp2 pIx (eOp2 pIx (eV 5) (eC (.int 1))) (eC (.int 3))) eNil)))))) (eCons (eOp2 pIx (eV 5) (eC (.int 0))) eNil)))))
  sPass)
  (sSeq (sSet 2 (lf (eFz (eOp2 pIx (eLc (cItA itR1 (eCons (eV 1) eNil)) (bName 8) (eTest (eOp2 pIsNot (eOp2 pIx (eOp2 pIx (eV 0) (eC (.int 0))) (eV 8)) (eC .non))) (eV 8) [8]) (eC (.int 0))))))
  (sSeq (sSet 6 (lf (eFz (eLc (cItA itR1 (eCons (eV 1) eNil)) (bName 7) eYes (eOp2 pSub (eOp2 pIx (eOp2 pIx (eV 0) (eV 7)) (eV 2)) (eOp2 pIx (eOp2 pIx (eV 0) (eC (.int 0))) (eV 2))) [7]))))
  (sRet (lf (eTup (eCons (eTup (eCons (eC (.str "wall")) (eCons (eV 6) (eCons (eCB pList (eCons (eOp2 pIx (eV 0) (eC (.int 0))) eNil)) eNil)))) (eCons (eC (.int 0)) eNil)))))))))))
def f_law_d_due : List D → RE D := mkF 9 1 [1, 2, 3, 4, 5, 6] m_law_d_due
/-! #### law -/
def b1_law : Env → Fl :=
  (sForget (sSeq (sSet 11 (lf (eFz (eIf (eTest (eOp2 pIs (eOp2 pIx (eOp2 pIx (eP 8) (eC (.int 2))) (eV 10)) (eC .non))) (eC .non) (eOp2 pAdd (eOp2 pIx (eOp2 pIx (eP 8) (eC (.int 1))) (eV 9)) (eOp2 pIx (eOp2 pIx (eP 8) (eC (.int 2))) (eV 10)))))))
  (sIf (lf (eNot (eTru (eCall 2 (f_law_same 8) (eCons (eV 11) (eCons (eOp2 pIx (eOp2 pIx (eV 5) (eV 9)) (eV 10)) eNil))))))
  (sRet (lf (eC (.bl false))))
  sPass)) [10, 11])
def b2_law : Env → Fl :=
  (sForget (sForget (sFor (cItA itR1 (eCons (eCB pLen (eCons (eV 5) eNil)) eNil)) (bName 10) b1_law) [10, 11]) [9, 10, 11])
def b3_law : Env → Fl :=
  (sForget (sSeq (sSet 7 (lf (eFz (eLc (cIt itL (eV 5)) (bName 12) eYes (eCB pList (eCons (eV 12) eNil)) [12]))))
  (sSeq (sSet 8 (lf (eCall 1 f_wall_of (eCons (eV 7) eNil))))
  (sSeq (sIf (lf (eOr (eNot (eTru (eCallB 2 (f_law_same 8) (eCons (eP 8) (eCons (eOp2 pIx (eV 6) (eC (.int 0))) eNil))))) (eNot (eTru (eCall 2 (f_law_same 8) (eCons (eCall 1 f_spread_of (eCons (eV 7) eNil)) (eCons (eOp2 pIx (eV 6) (eC (.int 1))) eNil)))))))
  (sRet (lf (eC (.bl false))))
  sPass)
  (sSeq (sIf (lf (eNot (eTru (eCall 2 (f_law_same 8) (eCons (eV 7) (eCons (eV 5) eNil))))))
  (sRet (lf (eC (.bl false))))
  sPass)
  (sForget (sIf (lf (eTest (eOp2 pEq (eOp2 pIx (eOp2 pIx (eV 6) (eC (.int 0))) (eC (.int 0))) (eC (.str "wall")))))
  (sSeq (sForget (sFor (cItA itR1 (eCons (eCB pLen (eCons (eV 5) eNil)) eNil)) (bName 9) b2_law) [9, 10, 11])
  (sSeq (sSetIx 8 (lf (eC (.int 5))) (plIx 8 (plN 8) (eC (.int 1))) (lf (eC (.int 0))))
  (sApp 8 (plIx 8 (plN 8) (eC (.int 2))) (lf (eC (.int 1))))))
  sPass) [9, 10, 11]))))) [5, 6, 7, 8, 9, 10, 11])
def m_law : Env → Fl :=
  (sSeq (sSet 1 (lf (eFz (eCall 1 f_law_d_drawn_table (eCons (eCall 2 f_law_source (eCons (eV 0) (eCons (eC (.int 0)) eNil))) eNil)))))
  (sSeq (sSet 2 (lf (eFz (eCall 1 f_law_d_drawn_table (eCons (eCall 2 f_law_source (eCons (eV 0) (eCons (eC (.int 1)) eNil))) eNil)))))
  (sSeq (sSet 3 (lf (eFz (eCall 1 f_law_d_due (eCons (eV 1) eNil)))))
  (sSeq (sSet 4 (lf (eFz (eCall 1 f_law_d_due (eCons (eV 2) eNil)))))
  (sSeq (sForget (sFor (cIt itL (eLst (eCons (eTup (eCons (eV 1) (eCons (eV 3) eNil))) (eCons (eTup (eCons (eV 2) (eCons (eV 4) eNil))) (eCons (eTup (eCons (eV 1) (eCons (eV 3) eNil))) eNil))))) (bTup 2 (bCons (bName 5) (bCons (bName 6) bNil))) b3_law) [5, 6, 7, 8, 9, 10, 11])
  (sRet (lf (eC (.bl true)))))))))
def f_law : List D → RE D := mkF 13 1 [1, 2, 3, 4, 5, 6, 7, 8, 9, 10, 11] m_law
end K14


set_option Elab.async false
set_option linter.all false
set_option maxRecDepth 100000
set_option maxHeartbeats 4000000
namespace DP
open L2 Evl
theorem IsS.ne {s : D} (h : IsS s) : s ≠ .unk := by obtain ⟨a, b, c, rfl, _⟩ := h; exact fun z => nomatch z
theorem call_pick {r : Nat} {env : Env} {s : D} {m : Int} {fa : Ef (List D)} (he : env[r]? = some s) (hs : IsS s) (hm : 0 < m) (hm2 : m < 1073741824) (hfa : fa env = .ok [.int m] env) : ∃ x s', IsS s' ∧ 0 ≤ x ∧ x < m ∧ fCallM r 2 f_law_pick fa env = .ok (.int x) (env.set r s') := by
  obtain ⟨x, s', h1, h2, h3, h4⟩ := pick_spec hs hm hm2
  refine ⟨x, s', h2, h3, h4, ?_⟩
  have e : fCallM r 2 f_law_pick fa env = (fa env).bind fun ds env1 => apM r 2 f_law_pick s ds env1 := by
    obtain ⟨a, b, c, rfl, _⟩ := hs
    unfold fCallM
    rw [he]
  rw [e, hfa, RE.bind_ok]
  unfold apM
  rw [if_pos (show [D.int m].length + 1 = 2 from rfl), h1]
  rfl
theorem list_fun {α : Type} {F : α → D} [Inhabited α] : ∀ {l : List D}, (∀ d ∈ l, ∃ a, d = F a) → ∃ p : Nat → α, l = (List.range l.length).map fun i => F (p i) := fun {l} h => by
  have h' : ∀ i, ∃ a, i < l.length → l[i]? = some (F a) := fun i => by
    by_cases hi : i < l.length
    · obtain ⟨a, e⟩ := h l[i] (List.getElem_mem hi)
      exact ⟨a, fun _ => by rw [List.getElem?_eq_getElem hi, e]⟩
    · exact ⟨default, fun z => absurd z hi⟩
  refine ⟨fun i => Classical.choose (h' i), List.ext_getElem? fun i => ?_⟩
  by_cases hi : i < l.length
  · rw [Classical.choose_spec (h' i) hi]; simp [sSeq, sForget, sIf, sSet, sRet, sPass, sCont, sBreak, sRetN, sDrop, sSetIx, sApp, sAsg, lf, eTest, eTru, toBl, eOp2, eV, eC, eSh, toShd, eFz, fFz, eIf, fIf, fTest, fOp2, eAnd, eOr, eNot, eAndV, eOrV, eNotV, eTup, eLst, eNil, eCons, fNil, fCons, fTup, fLst, eCB, fCB, eUn, pNeg, eSl, oNone, oSome, toIntO, pSub, pMul, pDiv, pMod, pPow, pLt, pLe, pGt, pGe, intOp, cT, cDiv, cMod, cPow, pAbs, pInt, pMax2, pMin2, plN, plIx, RPs, RPe, atP, getP, setP, setD, appD, okL, ixStep, eCall, eCallB, apN, fMv, fMvP, bName, bTup, bCons, bNil, wipeD, shd, frz, cIt, itE, eIsi, isiB, argsAt, restD, vsOk, Fl.val, nx, nxE, stp, isScal, updP, hi]
  · simp [sSeq, sForget, sIf, sSet, sRet, sPass, sCont, sBreak, sRetN, sDrop, sSetIx, sApp, sAsg, lf, eTest, eTru, toBl, eOp2, eV, eC, eSh, toShd, eFz, fFz, eIf, fIf, fTest, fOp2, eAnd, eOr, eNot, eAndV, eOrV, eNotV, eTup, eLst, eNil, eCons, fNil, fCons, fTup, fLst, eCB, fCB, eUn, pNeg, eSl, oNone, oSome, toIntO, pSub, pMul, pDiv, pMod, pPow, pLt, pLe, pGt, pGe, intOp, cT, cDiv, cMod, cPow, pAbs, pInt, pMax2, pMin2, plN, plIx, RPs, RPe, atP, getP, setP, setD, appD, okL, ixStep, eCall, eCallB, apN, fMv, fMvP, bName, bTup, bCons, bNil, wipeD, shd, frz, cIt, itE, eIsi, isiB, argsAt, restD, vsOk, Fl.val, nx, nxE, stp, isScal, updP, hi]
def oD : Option Int → D
  | none => .non
  | some i => .int i
@[simp] theorem oD_none : oD none = .non := rfl
@[simp] theorem oD_some (i : Int) : oD (some i) = .int i := rfl
@[simp] theorem shd_oD (o : Option Int) : shd (oD o) = true := by cases o <;> rfl
@[simp] theorem frz_oD (o : Option Int) : frz (oD o) = oD o := by cases o <;> rfl
theorem oD_ne (o : Option Int) : oD o ≠ .unk := by cases o <;> exact fun z => nomatch z
@[simp] theorem shds_oD {n : Nat} {f : Nat → Option Int} : shds ((List.range n).map fun i => oD (f i)) = true := by rw [shds_all]; simp [sSeq, sForget, sIf, sSet, sRet, sPass, sCont, sBreak, sRetN, sDrop, sSetIx, sApp, sAsg, lf, eTest, eTru, toBl, eOp2, eV, eC, eSh, toShd, eFz, fFz, eIf, fIf, fTest, fOp2, eAnd, eOr, eNot, eAndV, eOrV, eNotV, eTup, eLst, eNil, eCons, fNil, fCons, fTup, fLst, eCB, fCB, eUn, pNeg, eSl, oNone, oSome, toIntO, pSub, pMul, pDiv, pMod, pPow, pLt, pLe, pGt, pGe, intOp, cT, cDiv, cMod, cPow, pAbs, pInt, pMax2, pMin2, plN, plIx, RPs, RPe, atP, getP, setP, setD, appD, okL, ixStep, eCall, eCallB, apN, fMv, fMvP, bName, bTup, bCons, bNil, wipeD, shd, frz, cIt, itE, eIsi, isiB, argsAt, restD, vsOk, Fl.val, nx, nxE, stp, isScal, updP, List.all_map, Function.comp_def]
@[simp] theorem shds_iD {n : Nat} {f : Nat → Int} : shds ((List.range n).map fun i => D.int (f i)) = true := by rw [shds_all]; simp [sSeq, sForget, sIf, sSet, sRet, sPass, sCont, sBreak, sRetN, sDrop, sSetIx, sApp, sAsg, lf, eTest, eTru, toBl, eOp2, eV, eC, eSh, toShd, eFz, fFz, eIf, fIf, fTest, fOp2, eAnd, eOr, eNot, eAndV, eOrV, eNotV, eTup, eLst, eNil, eCons, fNil, fCons, fTup, fLst, eCB, fCB, eUn, pNeg, eSl, oNone, oSome, toIntO, pSub, pMul, pDiv, pMod, pPow, pLt, pLe, pGt, pGe, intOp, cT, cDiv, cMod, cPow, pAbs, pInt, pMax2, pMin2, plN, plIx, RPs, RPe, atP, getP, setP, setD, appD, okL, ixStep, eCall, eCallB, apN, fMv, fMvP, bName, bTup, bCons, bNil, wipeD, shd, frz, cIt, itE, eIsi, isiB, argsAt, restD, vsOk, Fl.val, nx, nxE, stp, isScal, updP, List.all_map, Function.comp_def, shd]
@[simp] theorem frzs_iD {n : Nat} {f : Nat → Int} : frzs ((List.range n).map fun i => D.int (f i)) = (List.range n).map fun i => D.int (f i) := by rw [frzs_map]; simp [sSeq, sForget, sIf, sSet, sRet, sPass, sCont, sBreak, sRetN, sDrop, sSetIx, sApp, sAsg, lf, eTest, eTru, toBl, eOp2, eV, eC, eSh, toShd, eFz, fFz, eIf, fIf, fTest, fOp2, eAnd, eOr, eNot, eAndV, eOrV, eNotV, eTup, eLst, eNil, eCons, fNil, fCons, fTup, fLst, eCB, fCB, eUn, pNeg, eSl, oNone, oSome, toIntO, pSub, pMul, pDiv, pMod, pPow, pLt, pLe, pGt, pGe, intOp, cT, cDiv, cMod, cPow, pAbs, pInt, pMax2, pMin2, plN, plIx, RPs, RPe, atP, getP, setP, setD, appD, okL, ixStep, eCall, eCallB, apN, fMv, fMvP, bName, bTup, bCons, bNil, wipeD, shd, frz, cIt, itE, eIsi, isiB, argsAt, restD, vsOk, Fl.val, nx, nxE, stp, isScal, updP, List.map_map, Function.comp_def]
@[simp] theorem frzs_oD {n : Nat} {f : Nat → Option Int} : frzs ((List.range n).map fun i => oD (f i)) = (List.range n).map fun i => oD (f i) := by rw [frzs_map]; simp [sSeq, sForget, sIf, sSet, sRet, sPass, sCont, sBreak, sRetN, sDrop, sSetIx, sApp, sAsg, lf, eTest, eTru, toBl, eOp2, eV, eC, eSh, toShd, eFz, fFz, eIf, fIf, fTest, fOp2, eAnd, eOr, eNot, eAndV, eOrV, eNotV, eTup, eLst, eNil, eCons, fNil, fCons, fTup, fLst, eCB, fCB, eUn, pNeg, eSl, oNone, oSome, toIntO, pSub, pMul, pDiv, pMod, pPow, pLt, pLe, pGt, pGe, intOp, cT, cDiv, cMod, cPow, pAbs, pInt, pMax2, pMin2, plN, plIx, RPs, RPe, atP, getP, setP, setD, appD, okL, ixStep, eCall, eCallB, apN, fMv, fMvP, bName, bTup, bCons, bNil, wipeD, shd, frz, cIt, itE, eIsi, isiB, argsAt, restD, vsOk, Fl.val, nx, nxE, stp, isScal, updP, List.map_map, Function.comp_def]
end DP
namespace K14
open DP L2 Evl
def rowD (o : Bool) (n : Nat) (f : Nat → Option Int) : D := .con o .lst ((List.range n).map fun e => oD (f e))
def tb (o : Bool) (n : Nat) (t : Nat → Nat → Option Int) : D := .con o .lst ((List.range n).map fun s => rowD o n (t s))
theorem sum_p {n most : Nat} {s : D} (hs : IsS s) (hn : n ≤ 6) (hm : most ≤ 100000000) : ∃ (p : Nat → Int) (s' : D), IsS s' ∧ sSet 3 (fFz (fLc (cItA itR1 (eCons (eV 1) eNil)) (bName 5) fYes (fCallM 0 2 f_law_pick (fCons (lf (eOp2 pAdd (eV 2) (eC (.int 1)))) fNil)) [5])) [s, .int n, .int most, .unk, .unk, .unk, .unk, .unk] =
    .nx [s', .int n, .int most, .lst ((List.range n).map fun i => .int (p i)), .unk, .unk, .unk, .unk] := by
  obtain ⟨out, env', h1, h2, h3, h4⟩ := fLcGo_inv (g := bName 5) (c := fYes) (el := fCallM 0 2 f_law_pick (fCons (lf (eOp2 pAdd (eV 2) (eC (.int 1)))) fNil)) (vs := [5]) (item := fun i : Nat => .int (i : Nat)) (I := fun e => ∃ s', IsS s' ∧ e = [s', .int n, .int most, .unk, .unk, .unk, .unk, .unk]) (P := fun d => ∃ a : Int, d = .int a) (List.range n) [s, .int n, .int most, .unk, .unk, .unk, .unk, .unk] ⟨s, hs, rfl⟩ (by
    rintro i hi e ⟨s', hs', rfl⟩
    obtain ⟨x, s2, q1, q2, q3, q4⟩ := call_pick (r := 0) (env := [s', .int n, .int most, .unk, .unk, .int i, .unk, .unk]) (fa := fCons (lf (eOp2 pAdd (eV 2) (eC (.int 1)))) fNil) (m := (most : Int) + 1) rfl hs' (by omega) (by omega) (by simp [sSeq, sForget, sIf, sSet, sRet, sPass, sCont, sBreak, sRetN, sDrop, sSetIx, sApp, sAsg, lf, eTest, eTru, toBl, eOp2, eV, eC, eSh, toShd, eFz, fFz, eIf, fIf, fTest, fOp2, eAnd, eOr, eNot, eAndV, eOrV, eNotV, eTup, eLst, eNil, eCons, fNil, fCons, fTup, fLst, eCB, fCB, eUn, pNeg, eSl, oNone, oSome, toIntO, pSub, pMul, pDiv, pMod, pPow, pLt, pLe, pGt, pGe, intOp, cT, cDiv, cMod, cPow, pAbs, pInt, pMax2, pMin2, plN, plIx, RPs, RPe, atP, getP, setP, setD, appD, okL, ixStep, eCall, eCallB, apN, fMv, fMvP, bName, bTup, bCons, bNil, wipeD, shd, frz, cIt, itE, eIsi, isiB, argsAt, restD, vsOk, Fl.val, nx, nxE, stp, isScal, updP])
    exact ⟨_, _, _, _, rfl, rfl, q4, ⟨x, rfl⟩, s2, q1, rfl⟩)
  obtain ⟨s', q1, rfl⟩ := h4
  obtain ⟨p, hp⟩ := list_fun h3
  rw [h2, List.length_range] at hp
  refine ⟨p, s', q1, ?_⟩
  have e := fLc_ok (env := [s, .int n, .int most, .unk, .unk, .unk, .unk, .unk]) (rng1 (f := eCons (eV 1) eNil) (n := n) (by simp [sSeq, sForget, sIf, sSet, sRet, sPass, sCont, sBreak, sRetN, sDrop, sSetIx, sApp, sAsg, lf, eTest, eTru, toBl, eOp2, eV, eC, eSh, toShd, eFz, fFz, eIf, fIf, fTest, fOp2, eAnd, eOr, eNot, eAndV, eOrV, eNotV, eTup, eLst, eNil, eCons, fNil, fCons, fTup, fLst, eCB, fCB, eUn, pNeg, eSl, oNone, oSome, toIntO, pSub, pMul, pDiv, pMod, pPow, pLt, pLe, pGt, pGe, intOp, cT, cDiv, cMod, cPow, pAbs, pInt, pMax2, pMin2, plN, plIx, RPs, RPe, atP, getP, setP, setD, appD, okL, ixStep, eCall, eCallB, apN, fMv, fMvP, bName, bTup, bCons, bNil, wipeD, shd, frz, cIt, itE, eIsi, isiB, argsAt, restD, vsOk, Fl.val, nx, nxE, stp, isScal, updP]) (by omega)) (by simp [sSeq, sForget, sIf, sSet, sRet, sPass, sCont, sBreak, sRetN, sDrop, sSetIx, sApp, sAsg, lf, eTest, eTru, toBl, eOp2, eV, eC, eSh, toShd, eFz, fFz, eIf, fIf, fTest, fOp2, eAnd, eOr, eNot, eAndV, eOrV, eNotV, eTup, eLst, eNil, eCons, fNil, fCons, fTup, fLst, eCB, fCB, eUn, pNeg, eSl, oNone, oSome, toIntO, pSub, pMul, pDiv, pMod, pPow, pLt, pLe, pGt, pGe, intOp, cT, cDiv, cMod, cPow, pAbs, pInt, pMax2, pMin2, plN, plIx, RPs, RPe, atP, getP, setP, setD, appD, okL, ixStep, eCall, eCallB, apN, fMv, fMvP, bName, bTup, bCons, bNil, wipeD, shd, frz, cIt, itE, eIsi, isiB, argsAt, restD, vsOk, Fl.val, nx, nxE, stp, isScal, updP]; exact size_ok (by omega)) (by simp [sSeq, sForget, sIf, sSet, sRet, sPass, sCont, sBreak, sRetN, sDrop, sSetIx, sApp, sAsg, lf, eTest, eTru, toBl, eOp2, eV, eC, eSh, toShd, eFz, fFz, eIf, fIf, fTest, fOp2, eAnd, eOr, eNot, eAndV, eOrV, eNotV, eTup, eLst, eNil, eCons, fNil, fCons, fTup, fLst, eCB, fCB, eUn, pNeg, eSl, oNone, oSome, toIntO, pSub, pMul, pDiv, pMod, pPow, pLt, pLe, pGt, pGe, intOp, cT, cDiv, cMod, cPow, pAbs, pInt, pMax2, pMin2, plN, plIx, RPs, RPe, atP, getP, setP, setD, appD, okL, ixStep, eCall, eCallB, apN, fMv, fMvP, bName, bTup, bCons, bNil, wipeD, shd, frz, cIt, itE, eIsi, isiB, argsAt, restD, vsOk, Fl.val, nx, nxE, stp, isScal, updP]) h1
  unfold sSet fFz
  rw [e, hp]
  simp [sSeq, sForget, sIf, sSet, sRet, sPass, sCont, sBreak, sRetN, sDrop, sSetIx, sApp, sAsg, lf, eTest, eTru, toBl, eOp2, eV, eC, eSh, toShd, eFz, fFz, eIf, fIf, fTest, fOp2, eAnd, eOr, eNot, eAndV, eOrV, eNotV, eTup, eLst, eNil, eCons, fNil, fCons, fTup, fLst, eCB, fCB, eUn, pNeg, eSl, oNone, oSome, toIntO, pSub, pMul, pDiv, pMod, pPow, pLt, pLe, pGt, pGe, intOp, cT, cDiv, cMod, cPow, pAbs, pInt, pMax2, pMin2, plN, plIx, RPs, RPe, atP, getP, setP, setD, appD, okL, ixStep, eCall, eCallB, apN, fMv, fMvP, bName, bTup, bCons, bNil, wipeD, shd, frz, cIt, itE, eIsi, isiB, argsAt, restD, vsOk, Fl.val, nx, nxE, stp, isScal, updP]
theorem sum_q {n most : Nat} {s P : D} (hs : IsS s) (hP : shd P = true) (hn : n ≤ 6) (hm : most ≤ 100000000) : ∃ (q : Nat → Option Int) (s' : D), IsS s' ∧ sSet 4 (fLc (cItA itR1 (eCons (eV 1) eNil)) (bName 5) fYes (fIf (fTest (fOp2 pGt (fCallM 0 2 f_law_pick (fCons (lf (eC (.int 5))) fNil)) (lf (eC (.int 0))))) (fCallM 0 2 f_law_pick (fCons (lf (eOp2 pAdd (eV 2) (eC (.int 1)))) fNil)) (lf (eC .non))) [5]) [s, .int n, .int most, P, .unk, .unk, .unk, .unk] =
    .nx [s', .int n, .int most, P, .own ((List.range n).map fun i => oD (q i)), .unk, .unk, .unk] := by
  obtain ⟨out, env', h1, h2, h3, h4⟩ := fLcGo_inv (g := bName 5) (c := fYes) (el := fIf (fTest (fOp2 pGt (fCallM 0 2 f_law_pick (fCons (lf (eC (.int 5))) fNil)) (lf (eC (.int 0))))) (fCallM 0 2 f_law_pick (fCons (lf (eOp2 pAdd (eV 2) (eC (.int 1)))) fNil)) (lf (eC .non))) (vs := [5]) (item := fun i : Nat => .int (i : Nat)) (I := fun e => ∃ s', IsS s' ∧ e = [s', .int n, .int most, P, .unk, .unk, .unk, .unk]) (P := fun d => ∃ a : Option Int, d = oD a) (List.range n) [s, .int n, .int most, P, .unk, .unk, .unk, .unk] ⟨s, hs, rfl⟩ (by
    rintro i hi e ⟨s', hs', rfl⟩
    obtain ⟨x, s2, q1, q2, q3, q4⟩ := call_pick (r := 0) (env := [s', .int n, .int most, P, .unk, .int i, .unk, .unk]) (fa := fCons (lf (eC (.int 5))) fNil) (m := 5) rfl hs' (by omega) (by omega) (by simp [sSeq, sForget, sIf, sSet, sRet, sPass, sCont, sBreak, sRetN, sDrop, sSetIx, sApp, sAsg, lf, eTest, eTru, toBl, eOp2, eV, eC, eSh, toShd, eFz, fFz, eIf, fIf, fTest, fOp2, eAnd, eOr, eNot, eAndV, eOrV, eNotV, eTup, eLst, eNil, eCons, fNil, fCons, fTup, fLst, eCB, fCB, eUn, pNeg, eSl, oNone, oSome, toIntO, pSub, pMul, pDiv, pMod, pPow, pLt, pLe, pGt, pGe, intOp, cT, cDiv, cMod, cPow, pAbs, pInt, pMax2, pMin2, plN, plIx, RPs, RPe, atP, getP, setP, setD, appD, okL, ixStep, eCall, eCallB, apN, fMv, fMvP, bName, bTup, bCons, bNil, wipeD, shd, frz, cIt, itE, eIsi, isiB, argsAt, restD, vsOk, Fl.val, nx, nxE, stp, isScal, updP])
    obtain ⟨y, s3, r1, r2, r3, r4⟩ := call_pick (r := 0) (env := [s2, .int n, .int most, P, .unk, .int i, .unk, .unk]) (fa := fCons (lf (eOp2 pAdd (eV 2) (eC (.int 1)))) fNil) (m := (most : Int) + 1) rfl q1 (by omega) (by omega) (by simp [sSeq, sForget, sIf, sSet, sRet, sPass, sCont, sBreak, sRetN, sDrop, sSetIx, sApp, sAsg, lf, eTest, eTru, toBl, eOp2, eV, eC, eSh, toShd, eFz, fFz, eIf, fIf, fTest, fOp2, eAnd, eOr, eNot, eAndV, eOrV, eNotV, eTup, eLst, eNil, eCons, fNil, fCons, fTup, fLst, eCB, fCB, eUn, pNeg, eSl, oNone, oSome, toIntO, pSub, pMul, pDiv, pMod, pPow, pLt, pLe, pGt, pGe, intOp, cT, cDiv, cMod, cPow, pAbs, pInt, pMax2, pMin2, plN, plIx, RPs, RPe, atP, getP, setP, setD, appD, okL, ixStep, eCall, eCallB, apN, fMv, fMvP, bName, bTup, bCons, bNil, wipeD, shd, frz, cIt, itE, eIsi, isiB, argsAt, restD, vsOk, Fl.val, nx, nxE, stp, isScal, updP])
    by_cases c : 0 < x
    · exact ⟨_, _, .int y, [s3, .int n, .int most, P, .unk, .int i, .unk, .unk], rfl, rfl, by simp [sSeq, sForget, sIf, sSet, sRet, sPass, sCont, sBreak, sRetN, sDrop, sSetIx, sApp, sAsg, lf, eTest, eTru, toBl, eOp2, eV, eC, eSh, toShd, eFz, fFz, eIf, fIf, fTest, fOp2, eAnd, eOr, eNot, eAndV, eOrV, eNotV, eTup, eLst, eNil, eCons, fNil, fCons, fTup, fLst, eCB, fCB, eUn, pNeg, eSl, oNone, oSome, toIntO, pSub, pMul, pDiv, pMod, pPow, pLt, pLe, pGt, pGe, intOp, cT, cDiv, cMod, cPow, pAbs, pInt, pMax2, pMin2, plN, plIx, RPs, RPe, atP, getP, setP, setD, appD, okL, ixStep, eCall, eCallB, apN, fMv, fMvP, bName, bTup, bCons, bNil, wipeD, shd, frz, cIt, itE, eIsi, isiB, argsAt, restD, vsOk, Fl.val, nx, nxE, stp, isScal, updP, q4, r4, c], ⟨some y, rfl⟩, s3, r1, rfl⟩
    · exact ⟨_, _, .non, [s2, .int n, .int most, P, .unk, .int i, .unk, .unk], rfl, rfl, by simp [sSeq, sForget, sIf, sSet, sRet, sPass, sCont, sBreak, sRetN, sDrop, sSetIx, sApp, sAsg, lf, eTest, eTru, toBl, eOp2, eV, eC, eSh, toShd, eFz, fFz, eIf, fIf, fTest, fOp2, eAnd, eOr, eNot, eAndV, eOrV, eNotV, eTup, eLst, eNil, eCons, fNil, fCons, fTup, fLst, eCB, fCB, eUn, pNeg, eSl, oNone, oSome, toIntO, pSub, pMul, pDiv, pMod, pPow, pLt, pLe, pGt, pGe, intOp, cT, cDiv, cMod, cPow, pAbs, pInt, pMax2, pMin2, plN, plIx, RPs, RPe, atP, getP, setP, setD, appD, okL, ixStep, eCall, eCallB, apN, fMv, fMvP, bName, bTup, bCons, bNil, wipeD, shd, frz, cIt, itE, eIsi, isiB, argsAt, restD, vsOk, Fl.val, nx, nxE, stp, isScal, updP, q4, c], ⟨none, rfl⟩, s2, q1, rfl⟩)
  obtain ⟨s', q1, rfl⟩ := h4
  obtain ⟨q, hq⟩ := list_fun h3
  rw [h2, List.length_range] at hq
  refine ⟨q, s', q1, ?_⟩
  have e := fLc_ok (env := [s, .int n, .int most, P, .unk, .unk, .unk, .unk]) (rng1 (f := eCons (eV 1) eNil) (n := n) (by simp [sSeq, sForget, sIf, sSet, sRet, sPass, sCont, sBreak, sRetN, sDrop, sSetIx, sApp, sAsg, lf, eTest, eTru, toBl, eOp2, eV, eC, eSh, toShd, eFz, fFz, eIf, fIf, fTest, fOp2, eAnd, eOr, eNot, eAndV, eOrV, eNotV, eTup, eLst, eNil, eCons, fNil, fCons, fTup, fLst, eCB, fCB, eUn, pNeg, eSl, oNone, oSome, toIntO, pSub, pMul, pDiv, pMod, pPow, pLt, pLe, pGt, pGe, intOp, cT, cDiv, cMod, cPow, pAbs, pInt, pMax2, pMin2, plN, plIx, RPs, RPe, atP, getP, setP, setD, appD, okL, ixStep, eCall, eCallB, apN, fMv, fMvP, bName, bTup, bCons, bNil, wipeD, shd, frz, cIt, itE, eIsi, isiB, argsAt, restD, vsOk, Fl.val, nx, nxE, stp, isScal, updP]) (by omega)) (by simp [sSeq, sForget, sIf, sSet, sRet, sPass, sCont, sBreak, sRetN, sDrop, sSetIx, sApp, sAsg, lf, eTest, eTru, toBl, eOp2, eV, eC, eSh, toShd, eFz, fFz, eIf, fIf, fTest, fOp2, eAnd, eOr, eNot, eAndV, eOrV, eNotV, eTup, eLst, eNil, eCons, fNil, fCons, fTup, fLst, eCB, fCB, eUn, pNeg, eSl, oNone, oSome, toIntO, pSub, pMul, pDiv, pMod, pPow, pLt, pLe, pGt, pGe, intOp, cT, cDiv, cMod, cPow, pAbs, pInt, pMax2, pMin2, plN, plIx, RPs, RPe, atP, getP, setP, setD, appD, okL, ixStep, eCall, eCallB, apN, fMv, fMvP, bName, bTup, bCons, bNil, wipeD, shd, frz, cIt, itE, eIsi, isiB, argsAt, restD, vsOk, Fl.val, nx, nxE, stp, isScal, updP]; exact size_ok (by omega)) (by simp [sSeq, sForget, sIf, sSet, sRet, sPass, sCont, sBreak, sRetN, sDrop, sSetIx, sApp, sAsg, lf, eTest, eTru, toBl, eOp2, eV, eC, eSh, toShd, eFz, fFz, eIf, fIf, fTest, fOp2, eAnd, eOr, eNot, eAndV, eOrV, eNotV, eTup, eLst, eNil, eCons, fNil, fCons, fTup, fLst, eCB, fCB, eUn, pNeg, eSl, oNone, oSome, toIntO, pSub, pMul, pDiv, pMod, pPow, pLt, pLe, pGt, pGe, intOp, cT, cDiv, cMod, cPow, pAbs, pInt, pMax2, pMin2, plN, plIx, RPs, RPe, atP, getP, setP, setD, appD, okL, ixStep, eCall, eCallB, apN, fMv, fMvP, bName, bTup, bCons, bNil, wipeD, shd, frz, cIt, itE, eIsi, isiB, argsAt, restD, vsOk, Fl.val, nx, nxE, stp, isScal, updP]) h1
  unfold sSet
  rw [e, hq]
  simp [sSeq, sForget, sIf, sSet, sRet, sPass, sCont, sBreak, sRetN, sDrop, sSetIx, sApp, sAsg, lf, eTest, eTru, toBl, eOp2, eV, eC, eSh, toShd, eFz, fFz, eIf, fIf, fTest, fOp2, eAnd, eOr, eNot, eAndV, eOrV, eNotV, eTup, eLst, eNil, eCons, fNil, fCons, fTup, fLst, eCB, fCB, eUn, pNeg, eSl, oNone, oSome, toIntO, pSub, pMul, pDiv, pMod, pPow, pLt, pLe, pGt, pGe, intOp, cT, cDiv, cMod, cPow, pAbs, pInt, pMax2, pMin2, plN, plIx, RPs, RPe, atP, getP, setP, setD, appD, okL, ixStep, eCall, eCallB, apN, fMv, fMvP, bName, bTup, bCons, bNil, wipeD, shd, frz, cIt, itE, eIsi, isiB, argsAt, restD, vsOk, Fl.val, nx, nxE, stp, isScal, updP]
theorem set_range {α : Type} {n k : Nat} {f : Nat → α} {v : α} : ((List.range n).map f).set k v = (List.range n).map fun i => if i = k then v else f i := by
  refine List.ext_getElem? fun i => ?_
  by_cases hi : i < n
  · by_cases q : k = i
    · subst q; simp [sSeq, sForget, sIf, sSet, sRet, sPass, sCont, sBreak, sRetN, sDrop, sSetIx, sApp, sAsg, lf, eTest, eTru, toBl, eOp2, eV, eC, eSh, toShd, eFz, fFz, eIf, fIf, fTest, fOp2, eAnd, eOr, eNot, eAndV, eOrV, eNotV, eTup, eLst, eNil, eCons, fNil, fCons, fTup, fLst, eCB, fCB, eUn, pNeg, eSl, oNone, oSome, toIntO, pSub, pMul, pDiv, pMod, pPow, pLt, pLe, pGt, pGe, intOp, cT, cDiv, cMod, cPow, pAbs, pInt, pMax2, pMin2, plN, plIx, RPs, RPe, atP, getP, setP, setD, appD, okL, ixStep, eCall, eCallB, apN, fMv, fMvP, bName, bTup, bCons, bNil, wipeD, shd, frz, cIt, itE, eIsi, isiB, argsAt, restD, vsOk, Fl.val, nx, nxE, stp, isScal, updP, hi]
    · have q' : ¬ i = k := fun z => q z.symm
      rw [List.getElem?_set_ne q]; simp [sSeq, sForget, sIf, sSet, sRet, sPass, sCont, sBreak, sRetN, sDrop, sSetIx, sApp, sAsg, lf, eTest, eTru, toBl, eOp2, eV, eC, eSh, toShd, eFz, fFz, eIf, fIf, fTest, fOp2, eAnd, eOr, eNot, eAndV, eOrV, eNotV, eTup, eLst, eNil, eCons, fNil, fCons, fTup, fLst, eCB, fCB, eUn, pNeg, eSl, oNone, oSome, toIntO, pSub, pMul, pDiv, pMod, pPow, pLt, pLe, pGt, pGe, intOp, cT, cDiv, cMod, cPow, pAbs, pInt, pMax2, pMin2, plN, plIx, RPs, RPe, atP, getP, setP, setD, appD, okL, ixStep, eCall, eCallB, apN, fMv, fMvP, bName, bTup, bCons, bNil, wipeD, shd, frz, cIt, itE, eIsi, isiB, argsAt, restD, vsOk, Fl.val, nx, nxE, stp, isScal, updP, hi, q']
  · rw [List.getElem?_eq_none (by simp [sSeq, sForget, sIf, sSet, sRet, sPass, sCont, sBreak, sRetN, sDrop, sSetIx, sApp, sAsg, lf, eTest, eTru, toBl, eOp2, eV, eC, eSh, toShd, eFz, fFz, eIf, fIf, fTest, fOp2, eAnd, eOr, eNot, eAndV, eOrV, eNotV, eTup, eLst, eNil, eCons, fNil, fCons, fTup, fLst, eCB, fCB, eUn, pNeg, eSl, oNone, oSome, toIntO, pSub, pMul, pDiv, pMod, pPow, pLt, pLe, pGt, pGe, intOp, cT, cDiv, cMod, cPow, pAbs, pInt, pMax2, pMin2, plN, plIx, RPs, RPe, atP, getP, setP, setD, appD, okL, ixStep, eCall, eCallB, apN, fMv, fMvP, bName, bTup, bCons, bNil, wipeD, shd, frz, cIt, itE, eIsi, isiB, argsAt, restD, vsOk, Fl.val, nx, nxE, stp, isScal, updP]; omega), List.getElem?_eq_none (by simp [sSeq, sForget, sIf, sSet, sRet, sPass, sCont, sBreak, sRetN, sDrop, sSetIx, sApp, sAsg, lf, eTest, eTru, toBl, eOp2, eV, eC, eSh, toShd, eFz, fFz, eIf, fIf, fTest, fOp2, eAnd, eOr, eNot, eAndV, eOrV, eNotV, eTup, eLst, eNil, eCons, fNil, fCons, fTup, fLst, eCB, fCB, eUn, pNeg, eSl, oNone, oSome, toIntO, pSub, pMul, pDiv, pMod, pPow, pLt, pLe, pGt, pGe, intOp, cT, cDiv, cMod, cPow, pAbs, pInt, pMax2, pMin2, plN, plIx, RPs, RPe, atP, getP, setP, setD, appD, okL, ixStep, eCall, eCallB, apN, fMv, fMvP, bName, bTup, bCons, bNil, wipeD, shd, frz, cIt, itE, eIsi, isiB, argsAt, restD, vsOk, Fl.val, nx, nxE, stp, isScal, updP]; omega)]
theorem ixN_ok {n k : Nat} (h : k < n) : ixN n (k : Int) = some k := by unfold ixN; simp [sSeq, sForget, sIf, sSet, sRet, sPass, sCont, sBreak, sRetN, sDrop, sSetIx, sApp, sAsg, lf, eTest, eTru, toBl, eOp2, eV, eC, eSh, toShd, eFz, fFz, eIf, fIf, fTest, fOp2, eAnd, eOr, eNot, eAndV, eOrV, eNotV, eTup, eLst, eNil, eCons, fNil, fCons, fTup, fLst, eCB, fCB, eUn, pNeg, eSl, oNone, oSome, toIntO, pSub, pMul, pDiv, pMod, pPow, pLt, pLe, pGt, pGe, intOp, cT, cDiv, cMod, cPow, pAbs, pInt, pMax2, pMin2, plN, plIx, RPs, RPe, atP, getP, setP, setD, appD, okL, ixStep, eCall, eCallB, apN, fMv, fMvP, bName, bTup, bCons, bNil, wipeD, shd, frz, cIt, itE, eIsi, isiB, argsAt, restD, vsOk, Fl.val, nx, nxE, stp, isScal, updP, h]
theorem nice_oD {n : Nat} {o : Option Int} : nice n (oD o) = true := by cases o <;> cases n <;> rfl
theorem sum_fix {n most : Nat} {s P : D} {q : Nat → Option Int} (hs : IsS s) (hP : shd P = true) (hn : n ≤ 6) (hn1 : 1 ≤ n) (hm : most ≤ 100000000) : ∃ (q' : Nat → Option Int) (s' : D), IsS s' ∧ (∃ e, e < n ∧ q' e ≠ none) ∧ sIf (lf (eTest (eOp2 pEq (eLc (cIt itL (eP 4)) (bName 6) (eTest (eOp2 pIsNot (eV 6) (eC .non))) (eV 6) [6]) (eLst eNil))))
  (sSetIx 4 (fCallM 0 2 f_law_pick (fCons (lf (eOp2 pAdd (eV 2) (eC (.int 1)))) fNil)) (plN 4) (fCallM 0 2 f_law_pick (fCons (lf (eV 1)) fNil)))
  sPass [s, .int n, .int most, P, .own ((List.range n).map fun i => oD (q i)), .unk, .unk, .unk] = .nx [s', .int n, .int most, P, .own ((List.range n).map fun i => oD (q' i)), .unk, .unk, .unk] := by
  have e1 : eLc (cIt itL (eP 4)) (bName 6) (eTest (eOp2 pIsNot (eV 6) (eC .non))) (eV 6) [6] [s, .int n, .int most, P, .own ((List.range n).map fun i => oD (q i)), .unk, .unk, .unk] = .ok (.own (((List.range n).filter fun i => (q i).isSome).map fun i => oD (q i))) := by
    refine eLc_ok (ds := (List.range n).map fun i => oD (q i)) (by simp [sSeq, sForget, sIf, sSet, sRet, sPass, sCont, sBreak, sRetN, sDrop, sSetIx, sApp, sAsg, lf, eTest, eTru, toBl, eOp2, eV, eC, eSh, toShd, eFz, fFz, eIf, fIf, fTest, fOp2, eAnd, eOr, eNot, eAndV, eOrV, eNotV, eTup, eLst, eNil, eCons, fNil, fCons, fTup, fLst, eCB, fCB, eUn, pNeg, eSl, oNone, oSome, toIntO, pSub, pMul, pDiv, pMod, pPow, pLt, pLe, pGt, pGe, intOp, cT, cDiv, cMod, cPow, pAbs, pInt, pMax2, pMin2, plN, plIx, RPs, RPe, atP, getP, setP, setD, appD, okL, ixStep, eCall, eCallB, apN, fMv, fMvP, bName, bTup, bCons, bNil, wipeD, shd, frz, cIt, itE, eIsi, isiB, argsAt, restD, vsOk, Fl.val, nx, nxE, stp, isScal, updP]) (by simp [sSeq, sForget, sIf, sSet, sRet, sPass, sCont, sBreak, sRetN, sDrop, sSetIx, sApp, sAsg, lf, eTest, eTru, toBl, eOp2, eV, eC, eSh, toShd, eFz, fFz, eIf, fIf, fTest, fOp2, eAnd, eOr, eNot, eAndV, eOrV, eNotV, eTup, eLst, eNil, eCons, fNil, fCons, fTup, fLst, eCB, fCB, eUn, pNeg, eSl, oNone, oSome, toIntO, pSub, pMul, pDiv, pMod, pPow, pLt, pLe, pGt, pGe, intOp, cT, cDiv, cMod, cPow, pAbs, pInt, pMax2, pMin2, plN, plIx, RPs, RPe, atP, getP, setP, setD, appD, okL, ixStep, eCall, eCallB, apN, fMv, fMvP, bName, bTup, bCons, bNil, wipeD, shd, frz, cIt, itE, eIsi, isiB, argsAt, restD, vsOk, Fl.val, nx, nxE, stp, isScal, updP]; exact size_ok (by omega)) ?_
    refine lcGo_map _ (fun i hi => ⟨_, rfl, ?_, fun _ => ?_⟩)
    · cases h : q i <;> simp [sSeq, sForget, sIf, sSet, sRet, sPass, sCont, sBreak, sRetN, sDrop, sSetIx, sApp, sAsg, lf, eTest, eTru, toBl, eOp2, eV, eC, eSh, toShd, eFz, fFz, eIf, fIf, fTest, fOp2, eAnd, eOr, eNot, eAndV, eOrV, eNotV, eTup, eLst, eNil, eCons, fNil, fCons, fTup, fLst, eCB, fCB, eUn, pNeg, eSl, oNone, oSome, toIntO, pSub, pMul, pDiv, pMod, pPow, pLt, pLe, pGt, pGe, intOp, cT, cDiv, cMod, cPow, pAbs, pInt, pMax2, pMin2, plN, plIx, RPs, RPe, atP, getP, setP, setD, appD, okL, ixStep, eCall, eCallB, apN, fMv, fMvP, bName, bTup, bCons, bNil, wipeD, shd, frz, cIt, itE, eIsi, isiB, argsAt, restD, vsOk, Fl.val, nx, nxE, stp, isScal, updP, h]
    · cases h : q i <;> simp [sSeq, sForget, sIf, sSet, sRet, sPass, sCont, sBreak, sRetN, sDrop, sSetIx, sApp, sAsg, lf, eTest, eTru, toBl, eOp2, eV, eC, eSh, toShd, eFz, fFz, eIf, fIf, fTest, fOp2, eAnd, eOr, eNot, eAndV, eOrV, eNotV, eTup, eLst, eNil, eCons, fNil, fCons, fTup, fLst, eCB, fCB, eUn, pNeg, eSl, oNone, oSome, toIntO, pSub, pMul, pDiv, pMod, pPow, pLt, pLe, pGt, pGe, intOp, cT, cDiv, cMod, cPow, pAbs, pInt, pMax2, pMin2, plN, plIx, RPs, RPe, atP, getP, setP, setD, appD, okL, ixStep, eCall, eCallB, apN, fMv, fMvP, bName, bTup, bCons, bNil, wipeD, shd, frz, cIt, itE, eIsi, isiB, argsAt, restD, vsOk, Fl.val, nx, nxE, stp, isScal, updP, h]
  have e2 := pEq_nil (o := true) (o' := true) (l := ((List.range n).filter fun i => (q i).isSome).map fun i => oD (q i)) (by simp [sSeq, sForget, sIf, sSet, sRet, sPass, sCont, sBreak, sRetN, sDrop, sSetIx, sApp, sAsg, lf, eTest, eTru, toBl, eOp2, eV, eC, eSh, toShd, eFz, fFz, eIf, fIf, fTest, fOp2, eAnd, eOr, eNot, eAndV, eOrV, eNotV, eTup, eLst, eNil, eCons, fNil, fCons, fTup, fLst, eCB, fCB, eUn, pNeg, eSl, oNone, oSome, toIntO, pSub, pMul, pDiv, pMod, pPow, pLt, pLe, pGt, pGe, intOp, cT, cDiv, cMod, cPow, pAbs, pInt, pMax2, pMin2, plN, plIx, RPs, RPe, atP, getP, setP, setD, appD, okL, ixStep, eCall, eCallB, apN, fMv, fMvP, bName, bTup, bCons, bNil, wipeD, shd, frz, cIt, itE, eIsi, isiB, argsAt, restD, vsOk, Fl.val, nx, nxE, stp, isScal, updP, nice, List.all_map, Function.comp_def, nice_oD])
  by_cases c : ∃ e, e < n ∧ q e ≠ none
  · refine ⟨q, s, hs, c, ?_⟩
    have e3 : (((List.range n).filter fun i => (q i).isSome).map fun i => oD (q i)).isEmpty = false := by
      obtain ⟨e, h1, h2⟩ := c
      rw [List.isEmpty_eq_false_iff_exists_mem]
      exact ⟨oD (q e), List.mem_map.mpr ⟨e, List.mem_filter.mpr ⟨List.mem_range.mpr h1, by cases h : q e <;> simp_all⟩, rfl⟩⟩
    rw [e3] at e2
    simp [sSeq, sForget, sIf, sSet, sRet, sPass, sCont, sBreak, sRetN, sDrop, sSetIx, sApp, sAsg, lf, eTest, eTru, toBl, eOp2, eV, eC, eSh, toShd, eFz, fFz, eIf, fIf, fTest, fOp2, eAnd, eOr, eNot, eAndV, eOrV, eNotV, eTup, eLst, eNil, eCons, fNil, fCons, fTup, fLst, eCB, fCB, eUn, pNeg, eSl, oNone, oSome, toIntO, pSub, pMul, pDiv, pMod, pPow, pLt, pLe, pGt, pGe, intOp, cT, cDiv, cMod, cPow, pAbs, pInt, pMax2, pMin2, plN, plIx, RPs, RPe, atP, getP, setP, setD, appD, okL, ixStep, eCall, eCallB, apN, fMv, fMvP, bName, bTup, bCons, bNil, wipeD, shd, frz, cIt, itE, eIsi, isiB, argsAt, restD, vsOk, Fl.val, nx, nxE, stp, isScal, updP, e1, e2]
  · have e3 : (((List.range n).filter fun i => (q i).isSome).map fun i => oD (q i)).isEmpty = true := by
      rw [List.isEmpty_iff, List.map_eq_nil_iff, List.filter_eq_nil_iff]
      intro i hi
      have : q i = none := Classical.byContradiction fun z => c ⟨i, List.mem_range.mp hi, z⟩
      simp [sSeq, sForget, sIf, sSet, sRet, sPass, sCont, sBreak, sRetN, sDrop, sSetIx, sApp, sAsg, lf, eTest, eTru, toBl, eOp2, eV, eC, eSh, toShd, eFz, fFz, eIf, fIf, fTest, fOp2, eAnd, eOr, eNot, eAndV, eOrV, eNotV, eTup, eLst, eNil, eCons, fNil, fCons, fTup, fLst, eCB, fCB, eUn, pNeg, eSl, oNone, oSome, toIntO, pSub, pMul, pDiv, pMod, pPow, pLt, pLe, pGt, pGe, intOp, cT, cDiv, cMod, cPow, pAbs, pInt, pMax2, pMin2, plN, plIx, RPs, RPe, atP, getP, setP, setD, appD, okL, ixStep, eCall, eCallB, apN, fMv, fMvP, bName, bTup, bCons, bNil, wipeD, shd, frz, cIt, itE, eIsi, isiB, argsAt, restD, vsOk, Fl.val, nx, nxE, stp, isScal, updP, this]
    rw [e3] at e2
    obtain ⟨x, s2, q1, q2, q3, q4⟩ := call_pick (r := 0) (env := [s, .int n, .int most, P, .own ((List.range n).map fun i => oD (q i)), .unk, .unk, .unk]) (fa := fCons (lf (eOp2 pAdd (eV 2) (eC (.int 1)))) fNil) (m := (most : Int) + 1) rfl hs (by omega) (by omega) (by simp [sSeq, sForget, sIf, sSet, sRet, sPass, sCont, sBreak, sRetN, sDrop, sSetIx, sApp, sAsg, lf, eTest, eTru, toBl, eOp2, eV, eC, eSh, toShd, eFz, fFz, eIf, fIf, fTest, fOp2, eAnd, eOr, eNot, eAndV, eOrV, eNotV, eTup, eLst, eNil, eCons, fNil, fCons, fTup, fLst, eCB, fCB, eUn, pNeg, eSl, oNone, oSome, toIntO, pSub, pMul, pDiv, pMod, pPow, pLt, pLe, pGt, pGe, intOp, cT, cDiv, cMod, cPow, pAbs, pInt, pMax2, pMin2, plN, plIx, RPs, RPe, atP, getP, setP, setD, appD, okL, ixStep, eCall, eCallB, apN, fMv, fMvP, bName, bTup, bCons, bNil, wipeD, shd, frz, cIt, itE, eIsi, isiB, argsAt, restD, vsOk, Fl.val, nx, nxE, stp, isScal, updP])
    obtain ⟨y, s3, r1, r2, r3, r4⟩ := call_pick (r := 0) (env := [s2, .int n, .int most, P, .own ((List.range n).map fun i => oD (q i)), .unk, .unk, .unk]) (fa := fCons (lf (eV 1)) fNil) (m := (n : Int)) rfl q1 (by omega) (by omega) (by simp [sSeq, sForget, sIf, sSet, sRet, sPass, sCont, sBreak, sRetN, sDrop, sSetIx, sApp, sAsg, lf, eTest, eTru, toBl, eOp2, eV, eC, eSh, toShd, eFz, fFz, eIf, fIf, fTest, fOp2, eAnd, eOr, eNot, eAndV, eOrV, eNotV, eTup, eLst, eNil, eCons, fNil, fCons, fTup, fLst, eCB, fCB, eUn, pNeg, eSl, oNone, oSome, toIntO, pSub, pMul, pDiv, pMod, pPow, pLt, pLe, pGt, pGe, intOp, cT, cDiv, cMod, cPow, pAbs, pInt, pMax2, pMin2, plN, plIx, RPs, RPe, atP, getP, setP, setD, appD, okL, ixStep, eCall, eCallB, apN, fMv, fMvP, bName, bTup, bCons, bNil, wipeD, shd, frz, cIt, itE, eIsi, isiB, argsAt, restD, vsOk, Fl.val, nx, nxE, stp, isScal, updP])
    obtain ⟨k, rfl⟩ : ∃ k : Nat, y = (k : Int) := ⟨y.toNat, by omega⟩
    have hk : k < n := by omega
    refine ⟨fun i => if i = k then some x else q i, s3, r1, ⟨k, hk, by simp [sSeq, sForget, sIf, sSet, sRet, sPass, sCont, sBreak, sRetN, sDrop, sSetIx, sApp, sAsg, lf, eTest, eTru, toBl, eOp2, eV, eC, eSh, toShd, eFz, fFz, eIf, fIf, fTest, fOp2, eAnd, eOr, eNot, eAndV, eOrV, eNotV, eTup, eLst, eNil, eCons, fNil, fCons, fTup, fLst, eCB, fCB, eUn, pNeg, eSl, oNone, oSome, toIntO, pSub, pMul, pDiv, pMod, pPow, pLt, pLe, pGt, pGe, intOp, cT, cDiv, cMod, cPow, pAbs, pInt, pMax2, pMin2, plN, plIx, RPs, RPe, atP, getP, setP, setD, appD, okL, ixStep, eCall, eCallB, apN, fMv, fMvP, bName, bTup, bCons, bNil, wipeD, shd, frz, cIt, itE, eIsi, isiB, argsAt, restD, vsOk, Fl.val, nx, nxE, stp, isScal, updP]⟩, ?_⟩
    have e5 : (fun i => oD (if i = k then some x else q i)) = fun i => if i = k then .int x else oD (q i) := by
      funext i; split <;> rfl
    simp [sSeq, sForget, sIf, sSet, sRet, sPass, sCont, sBreak, sRetN, sDrop, sSetIx, sApp, sAsg, lf, eTest, eTru, toBl, eOp2, eV, eC, eSh, toShd, eFz, fFz, eIf, fIf, fTest, fOp2, eAnd, eOr, eNot, eAndV, eOrV, eNotV, eTup, eLst, eNil, eCons, fNil, fCons, fTup, fLst, eCB, fCB, eUn, pNeg, eSl, oNone, oSome, toIntO, pSub, pMul, pDiv, pMod, pPow, pLt, pLe, pGt, pGe, intOp, cT, cDiv, cMod, cPow, pAbs, pInt, pMax2, pMin2, plN, plIx, RPs, RPe, atP, getP, setP, setD, appD, okL, ixStep, eCall, eCallB, apN, fMv, fMvP, bName, bTup, bCons, bNil, wipeD, shd, frz, cIt, itE, eIsi, isiB, argsAt, restD, vsOk, Fl.val, nx, nxE, stp, isScal, updP, e1, e2, q4, r4, ixN_ok hk, set_range, e5]
theorem sum_tail {n most : Nat} {s : D} {p : Nat → Int} {q : Nat → Option Int} (hn : n ≤ 6) : sRet (lf (eLc (cItA itR1 (eCons (eV 1) eNil)) (bName 6) eYes (eLc (cItA itR1 (eCons (eV 1) eNil)) (bName 7) eYes (eIf (eTest (eOp2 pIs (eOp2 pIx (eP 4) (eV 7)) (eC .non))) (eC .non) (eOp2 pAdd (eOp2 pIx (eV 3) (eV 6)) (eOp2 pIx (eP 4) (eV 7)))) [7]) [6])) [s, .int n, .int most, .lst ((List.range n).map fun i => .int (p i)), .own ((List.range n).map fun i => oD (q i)), .unk, .unk, .unk] =
    .rt (tb true n fun x e => (q e).map (p x + ·)) [s, .int n, .int most, .lst ((List.range n).map fun i => .int (p i)), .own ((List.range n).map fun i => oD (q i)), .unk, .unk, .unk] := by
  have e1 : eLc (cItA itR1 (eCons (eV 1) eNil)) (bName 6) eYes (eLc (cItA itR1 (eCons (eV 1) eNil)) (bName 7) eYes (eIf (eTest (eOp2 pIs (eOp2 pIx (eP 4) (eV 7)) (eC .non))) (eC .non) (eOp2 pAdd (eOp2 pIx (eV 3) (eV 6)) (eOp2 pIx (eP 4) (eV 7)))) [7]) [6] [s, .int n, .int most, .lst ((List.range n).map fun i => .int (p i)), .own ((List.range n).map fun i => oD (q i)), .unk, .unk, .unk] = .ok (tb true n fun x e => (q e).map (p x + ·)) := by
    refine eLc_ok (rng1 (n := n) (by simp [sSeq, sForget, sIf, sSet, sRet, sPass, sCont, sBreak, sRetN, sDrop, sSetIx, sApp, sAsg, lf, eTest, eTru, toBl, eOp2, eV, eC, eSh, toShd, eFz, fFz, eIf, fIf, fTest, fOp2, eAnd, eOr, eNot, eAndV, eOrV, eNotV, eTup, eLst, eNil, eCons, fNil, fCons, fTup, fLst, eCB, fCB, eUn, pNeg, eSl, oNone, oSome, toIntO, pSub, pMul, pDiv, pMod, pPow, pLt, pLe, pGt, pGe, intOp, cT, cDiv, cMod, cPow, pAbs, pInt, pMax2, pMin2, plN, plIx, RPs, RPe, atP, getP, setP, setD, appD, okL, ixStep, eCall, eCallB, apN, fMv, fMvP, bName, bTup, bCons, bNil, wipeD, shd, frz, cIt, itE, eIsi, isiB, argsAt, restD, vsOk, Fl.val, nx, nxE, stp, isScal, updP]) (by omega)) (by simp [sSeq, sForget, sIf, sSet, sRet, sPass, sCont, sBreak, sRetN, sDrop, sSetIx, sApp, sAsg, lf, eTest, eTru, toBl, eOp2, eV, eC, eSh, toShd, eFz, fFz, eIf, fIf, fTest, fOp2, eAnd, eOr, eNot, eAndV, eOrV, eNotV, eTup, eLst, eNil, eCons, fNil, fCons, fTup, fLst, eCB, fCB, eUn, pNeg, eSl, oNone, oSome, toIntO, pSub, pMul, pDiv, pMod, pPow, pLt, pLe, pGt, pGe, intOp, cT, cDiv, cMod, cPow, pAbs, pInt, pMax2, pMin2, plN, plIx, RPs, RPe, atP, getP, setP, setD, appD, okL, ixStep, eCall, eCallB, apN, fMv, fMvP, bName, bTup, bCons, bNil, wipeD, shd, frz, cIt, itE, eIsi, isiB, argsAt, restD, vsOk, Fl.val, nx, nxE, stp, isScal, updP]; exact size_ok (by omega)) ?_
    refine lcGo_all _ (fun x hx => ⟨_, rfl, ?_⟩)
    refine eLc_ok (rng1 (n := n) (by simp [sSeq, sForget, sIf, sSet, sRet, sPass, sCont, sBreak, sRetN, sDrop, sSetIx, sApp, sAsg, lf, eTest, eTru, toBl, eOp2, eV, eC, eSh, toShd, eFz, fFz, eIf, fIf, fTest, fOp2, eAnd, eOr, eNot, eAndV, eOrV, eNotV, eTup, eLst, eNil, eCons, fNil, fCons, fTup, fLst, eCB, fCB, eUn, pNeg, eSl, oNone, oSome, toIntO, pSub, pMul, pDiv, pMod, pPow, pLt, pLe, pGt, pGe, intOp, cT, cDiv, cMod, cPow, pAbs, pInt, pMax2, pMin2, plN, plIx, RPs, RPe, atP, getP, setP, setD, appD, okL, ixStep, eCall, eCallB, apN, fMv, fMvP, bName, bTup, bCons, bNil, wipeD, shd, frz, cIt, itE, eIsi, isiB, argsAt, restD, vsOk, Fl.val, nx, nxE, stp, isScal, updP]) (by omega)) (by simp [sSeq, sForget, sIf, sSet, sRet, sPass, sCont, sBreak, sRetN, sDrop, sSetIx, sApp, sAsg, lf, eTest, eTru, toBl, eOp2, eV, eC, eSh, toShd, eFz, fFz, eIf, fIf, fTest, fOp2, eAnd, eOr, eNot, eAndV, eOrV, eNotV, eTup, eLst, eNil, eCons, fNil, fCons, fTup, fLst, eCB, fCB, eUn, pNeg, eSl, oNone, oSome, toIntO, pSub, pMul, pDiv, pMod, pPow, pLt, pLe, pGt, pGe, intOp, cT, cDiv, cMod, cPow, pAbs, pInt, pMax2, pMin2, plN, plIx, RPs, RPe, atP, getP, setP, setD, appD, okL, ixStep, eCall, eCallB, apN, fMv, fMvP, bName, bTup, bCons, bNil, wipeD, shd, frz, cIt, itE, eIsi, isiB, argsAt, restD, vsOk, Fl.val, nx, nxE, stp, isScal, updP]; exact size_ok (by omega)) ?_
    refine lcGo_all _ (fun e he => ⟨_, rfl, ?_⟩)
    have a1 := atI_range (f := fun i => oD (q i)) (List.mem_range.mp he)
    have a2 := atI_range (f := fun i => D.int (p i)) (List.mem_range.mp hx)
    cases h : q e <;> simp [sSeq, sForget, sIf, sSet, sRet, sPass, sCont, sBreak, sRetN, sDrop, sSetIx, sApp, sAsg, lf, eTest, eTru, toBl, eOp2, eV, eC, eSh, toShd, eFz, fFz, eIf, fIf, fTest, fOp2, eAnd, eOr, eNot, eAndV, eOrV, eNotV, eTup, eLst, eNil, eCons, fNil, fCons, fTup, fLst, eCB, fCB, eUn, pNeg, eSl, oNone, oSome, toIntO, pSub, pMul, pDiv, pMod, pPow, pLt, pLe, pGt, pGe, intOp, cT, cDiv, cMod, cPow, pAbs, pInt, pMax2, pMin2, plN, plIx, RPs, RPe, atP, getP, setP, setD, appD, okL, ixStep, eCall, eCallB, apN, fMv, fMvP, bName, bTup, bCons, bNil, wipeD, shd, frz, cIt, itE, eIsi, isiB, argsAt, restD, vsOk, Fl.val, nx, nxE, stp, isScal, updP, a1, a2, h]
  simp [sSeq, sForget, sIf, sSet, sRet, sPass, sCont, sBreak, sRetN, sDrop, sSetIx, sApp, sAsg, lf, eTest, eTru, toBl, eOp2, eV, eC, eSh, toShd, eFz, fFz, eIf, fIf, fTest, fOp2, eAnd, eOr, eNot, eAndV, eOrV, eNotV, eTup, eLst, eNil, eCons, fNil, fCons, fTup, fLst, eCB, fCB, eUn, pNeg, eSl, oNone, oSome, toIntO, pSub, pMul, pDiv, pMod, pPow, pLt, pLe, pGt, pGe, intOp, cT, cDiv, cMod, cPow, pAbs, pInt, pMax2, pMin2, plN, plIx, RPs, RPe, atP, getP, setP, setD, appD, okL, ixStep, eCall, eCallB, apN, fMv, fMvP, bName, bTup, bCons, bNil, wipeD, shd, frz, cIt, itE, eIsi, isiB, argsAt, restD, vsOk, Fl.val, nx, nxE, stp, isScal, updP, e1]
theorem sum_spec {n most : Nat} {s : D} (hs : IsS s) (hn : n ≤ 6) (hn1 : 1 ≤ n) (hm : most ≤ 100000000) : ∃ (t : Nat → Nat → Option Int) (s' : D), IsS s' ∧ (∃ e, e < n ∧ t 0 e ≠ none) ∧ (∀ x e, (t x e).isSome = (t 0 e).isSome) ∧ f_law_d_sum_table [s, .int n, .int most] = .ok (tb true n t) [s', .int n, .int most] := by
  obtain ⟨p, s1, h1, h2⟩ := sum_p hs hn hm
  obtain ⟨q, s2, h3, h4⟩ := sum_q (n := n) (most := most) (P := .lst ((List.range n).map fun i => .int (p i))) h1 (by simp [sSeq, sForget, sIf, sSet, sRet, sPass, sCont, sBreak, sRetN, sDrop, sSetIx, sApp, sAsg, lf, eTest, eTru, toBl, eOp2, eV, eC, eSh, toShd, eFz, fFz, eIf, fIf, fTest, fOp2, eAnd, eOr, eNot, eAndV, eOrV, eNotV, eTup, eLst, eNil, eCons, fNil, fCons, fTup, fLst, eCB, fCB, eUn, pNeg, eSl, oNone, oSome, toIntO, pSub, pMul, pDiv, pMod, pPow, pLt, pLe, pGt, pGe, intOp, cT, cDiv, cMod, cPow, pAbs, pInt, pMax2, pMin2, plN, plIx, RPs, RPe, atP, getP, setP, setD, appD, okL, ixStep, eCall, eCallB, apN, fMv, fMvP, bName, bTup, bCons, bNil, wipeD, shd, frz, cIt, itE, eIsi, isiB, argsAt, restD, vsOk, Fl.val, nx, nxE, stp, isScal, updP]) hn hm
  obtain ⟨q', s3, h5, ⟨e, he1, he2⟩, h6⟩ := sum_fix (q := q) (P := .lst ((List.range n).map fun i => .int (p i))) h3 (by simp [sSeq, sForget, sIf, sSet, sRet, sPass, sCont, sBreak, sRetN, sDrop, sSetIx, sApp, sAsg, lf, eTest, eTru, toBl, eOp2, eV, eC, eSh, toShd, eFz, fFz, eIf, fIf, fTest, fOp2, eAnd, eOr, eNot, eAndV, eOrV, eNotV, eTup, eLst, eNil, eCons, fNil, fCons, fTup, fLst, eCB, fCB, eUn, pNeg, eSl, oNone, oSome, toIntO, pSub, pMul, pDiv, pMod, pPow, pLt, pLe, pGt, pGe, intOp, cT, cDiv, cMod, cPow, pAbs, pInt, pMax2, pMin2, plN, plIx, RPs, RPe, atP, getP, setP, setD, appD, okL, ixStep, eCall, eCallB, apN, fMv, fMvP, bName, bTup, bCons, bNil, wipeD, shd, frz, cIt, itE, eIsi, isiB, argsAt, restD, vsOk, Fl.val, nx, nxE, stp, isScal, updP]) hn hn1 hm
  refine ⟨fun x e => (q' e).map (p x + ·), s3, h5, ⟨e, he1, by cases h : q' e <;> simp_all⟩, fun x e => by simp [sSeq, sForget, sIf, sSet, sRet, sPass, sCont, sBreak, sRetN, sDrop, sSetIx, sApp, sAsg, lf, eTest, eTru, toBl, eOp2, eV, eC, eSh, toShd, eFz, fFz, eIf, fIf, fTest, fOp2, eAnd, eOr, eNot, eAndV, eOrV, eNotV, eTup, eLst, eNil, eCons, fNil, fCons, fTup, fLst, eCB, fCB, eUn, pNeg, eSl, oNone, oSome, toIntO, pSub, pMul, pDiv, pMod, pPow, pLt, pLe, pGt, pGe, intOp, cT, cDiv, cMod, cPow, pAbs, pInt, pMax2, pMin2, plN, plIx, RPs, RPe, atP, getP, setP, setD, appD, okL, ixStep, eCall, eCallB, apN, fMv, fMvP, bName, bTup, bCons, bNil, wipeD, shd, frz, cIt, itE, eIsi, isiB, argsAt, restD, vsOk, Fl.val, nx, nxE, stp, isScal, updP], ?_⟩
  have e0 : m_law_d_sum_table [s, .int n, .int most, .unk, .unk, .unk, .unk, .unk] = .rt (tb true n fun x e => (q' e).map (p x + ·)) [s3, .int n, .int most, .lst ((List.range n).map fun i => .int (p i)), .own ((List.range n).map fun i => oD (q' i)), .unk, .unk, .unk] := by
    unfold m_law_d_sum_table
    exact seq_nx h2 (seq_nx h4 (seq_nx h6 (sum_tail hn)))
  have e := mkF_rt (N := 8) (P := 3) (rea := [3, 4]) (ds := [s, .int n, .int most]) rfl e0
  exact e
def up (t : Nat → Nat → Option Int) (x e : Nat) (o : Option Int) : Nat → Nat → Option Int := fun a b => if a = x ∧ b = e then o else t a b
@[simp] theorem shd_row {n : Nat} {f : Nat → Option Int} : shd (rowD false n f) = true := by simp [sSeq, sForget, sIf, sSet, sRet, sPass, sCont, sBreak, sRetN, sDrop, sSetIx, sApp, sAsg, lf, eTest, eTru, toBl, eOp2, eV, eC, eSh, toShd, eFz, fFz, eIf, fIf, fTest, fOp2, eAnd, eOr, eNot, eAndV, eOrV, eNotV, eTup, eLst, eNil, eCons, fNil, fCons, fTup, fLst, eCB, fCB, eUn, pNeg, eSl, oNone, oSome, toIntO, pSub, pMul, pDiv, pMod, pPow, pLt, pLe, pGt, pGe, intOp, cT, cDiv, cMod, cPow, pAbs, pInt, pMax2, pMin2, plN, plIx, RPs, RPe, atP, getP, setP, setD, appD, okL, ixStep, eCall, eCallB, apN, fMv, fMvP, bName, bTup, bCons, bNil, wipeD, shd, frz, cIt, itE, eIsi, isiB, argsAt, restD, vsOk, Fl.val, nx, nxE, stp, isScal, updP, rowD]
@[simp] theorem shd_tb {n : Nat} {t : Nat → Nat → Option Int} : shd (tb false n t) = true := by
  simp only [tb, shd, shds_all, Bool.not_false, Bool.true_and]
  simp [sSeq, sForget, sIf, sSet, sRet, sPass, sCont, sBreak, sRetN, sDrop, sSetIx, sApp, sAsg, lf, eTest, eTru, toBl, eOp2, eV, eC, eSh, toShd, eFz, fFz, eIf, fIf, fTest, fOp2, eAnd, eOr, eNot, eAndV, eOrV, eNotV, eTup, eLst, eNil, eCons, fNil, fCons, fTup, fLst, eCB, fCB, eUn, pNeg, eSl, oNone, oSome, toIntO, pSub, pMul, pDiv, pMod, pPow, pLt, pLe, pGt, pGe, intOp, cT, cDiv, cMod, cPow, pAbs, pInt, pMax2, pMin2, plN, plIx, RPs, RPe, atP, getP, setP, setD, appD, okL, ixStep, eCall, eCallB, apN, fMv, fMvP, bName, bTup, bCons, bNil, wipeD, shd, frz, cIt, itE, eIsi, isiB, argsAt, restD, vsOk, Fl.val, nx, nxE, stp, isScal, updP, List.all_map, Function.comp_def]
@[simp] theorem frz_row {o : Bool} {n : Nat} {f : Nat → Option Int} : frz (rowD o n f) = rowD false n f := by simp [sSeq, sForget, sIf, sSet, sRet, sPass, sCont, sBreak, sRetN, sDrop, sSetIx, sApp, sAsg, lf, eTest, eTru, toBl, eOp2, eV, eC, eSh, toShd, eFz, fFz, eIf, fIf, fTest, fOp2, eAnd, eOr, eNot, eAndV, eOrV, eNotV, eTup, eLst, eNil, eCons, fNil, fCons, fTup, fLst, eCB, fCB, eUn, pNeg, eSl, oNone, oSome, toIntO, pSub, pMul, pDiv, pMod, pPow, pLt, pLe, pGt, pGe, intOp, cT, cDiv, cMod, cPow, pAbs, pInt, pMax2, pMin2, plN, plIx, RPs, RPe, atP, getP, setP, setD, appD, okL, ixStep, eCall, eCallB, apN, fMv, fMvP, bName, bTup, bCons, bNil, wipeD, shd, frz, cIt, itE, eIsi, isiB, argsAt, restD, vsOk, Fl.val, nx, nxE, stp, isScal, updP, rowD]
@[simp] theorem frz_tb {o : Bool} {n : Nat} {t : Nat → Nat → Option Int} : frz (tb o n t) = tb false n t := by
  simp only [tb, frz, frzs_map, List.map_map, Function.comp_def, frz_row]
theorem ix_tb {o : Bool} {n x : Nat} {t : Nat → Nat → Option Int} (h : x < n) : pIx (tb o n t) (.int (x : Int)) = .ok (rowD o n (t x)) := by
  unfold tb; rw [pIx_lst, atI_range h]
theorem ix_row {o : Bool} {n e : Nat} {f : Nat → Option Int} (h : e < n) : pIx (rowD o n f) (.int (e : Int)) = .ok (oD (f e)) := by
  unfold rowD; rw [pIx_lst, atI_range h]
theorem upd_tb {env : Env} {r n x e : Nat} {t : Nat → Nat → Option Int} {v : D} {o : Option Int} (h4 : env[r]? = some (tb true n t)) (hx : x < n) (he : e < n) (hv : v = oD o) : updP r [x] (setD (.int (e : Int)) v) env = some (env.set r (tb true n (up t x e o))) := by
  subst hv
  unfold updP
  rw [h4]
  have g : getP [x] (tb true n t) = some (rowD true n (t x)) := by
    simp [sSeq, sForget, sIf, sSet, sRet, sPass, sCont, sBreak, sRetN, sDrop, sSetIx, sApp, sAsg, lf, eTest, eTru, toBl, eOp2, eV, eC, eSh, toShd, eFz, fFz, eIf, fIf, fTest, fOp2, eAnd, eOr, eNot, eAndV, eOrV, eNotV, eTup, eLst, eNil, eCons, fNil, fCons, fTup, fLst, eCB, fCB, eUn, pNeg, eSl, oNone, oSome, toIntO, pSub, pMul, pDiv, pMod, pPow, pLt, pLe, pGt, pGe, intOp, cT, cDiv, cMod, cPow, pAbs, pInt, pMax2, pMin2, plN, plIx, RPs, RPe, atP, getP, setP, setD, appD, okL, ixStep, eCall, eCallB, apN, fMv, fMvP, bName, bTup, bCons, bNil, wipeD, shd, frz, cIt, itE, eIsi, isiB, argsAt, restD, vsOk, Fl.val, nx, nxE, stp, isScal, updP, tb, hx]
  have sd : setD (.int (e : Int)) (oD o) (rowD true n (t x)) = some (rowD true n (up t x e o x)) := by
    have : (fun i => if i = e then oD o else oD (t x i)) = fun i => oD (up t x e o x i) := by
      funext i; unfold up; split <;> simp_all
    simp [sSeq, sForget, sIf, sSet, sRet, sPass, sCont, sBreak, sRetN, sDrop, sSetIx, sApp, sAsg, lf, eTest, eTru, toBl, eOp2, eV, eC, eSh, toShd, eFz, fFz, eIf, fIf, fTest, fOp2, eAnd, eOr, eNot, eAndV, eOrV, eNotV, eTup, eLst, eNil, eCons, fNil, fCons, fTup, fLst, eCB, fCB, eUn, pNeg, eSl, oNone, oSome, toIntO, pSub, pMul, pDiv, pMod, pPow, pLt, pLe, pGt, pGe, intOp, cT, cDiv, cMod, cPow, pAbs, pInt, pMax2, pMin2, plN, plIx, RPs, RPe, atP, getP, setP, setD, appD, okL, ixStep, eCall, eCallB, apN, fMv, fMvP, bName, bTup, bCons, bNil, wipeD, shd, frz, cIt, itE, eIsi, isiB, argsAt, restD, vsOk, Fl.val, nx, nxE, stp, isScal, updP, rowD, ixN_ok he, set_range, this]
  have sp : setP [x] (tb true n t) (rowD true n (up t x e o x)) = tb true n (up t x e o) := by
    have : (fun i => if i = x then rowD true n (up t x e o x) else rowD true n (t i)) = fun i => rowD true n (up t x e o i) := by
      funext i
      split
      · rename_i h; rw [h]
      · rename_i h
        congr 1
        funext j; unfold up; rw [if_neg (fun z => h z.1)]
    simp [sSeq, sForget, sIf, sSet, sRet, sPass, sCont, sBreak, sRetN, sDrop, sSetIx, sApp, sAsg, lf, eTest, eTru, toBl, eOp2, eV, eC, eSh, toShd, eFz, fFz, eIf, fIf, fTest, fOp2, eAnd, eOr, eNot, eAndV, eOrV, eNotV, eTup, eLst, eNil, eCons, fNil, fCons, fTup, fLst, eCB, fCB, eUn, pNeg, eSl, oNone, oSome, toIntO, pSub, pMul, pDiv, pMod, pPow, pLt, pLe, pGt, pGe, intOp, cT, cDiv, cMod, cPow, pAbs, pInt, pMax2, pMin2, plN, plIx, RPs, RPe, atP, getP, setP, setD, appD, okL, ixStep, eCall, eCallB, apN, fMv, fMvP, bName, bTup, bCons, bNil, wipeD, shd, frz, cIt, itE, eIsi, isiB, argsAt, restD, vsOk, Fl.val, nx, nxE, stp, isScal, updP, tb, hx, set_range, this]
  rw [Option.bind_some, g, Option.bind_some, sd]
  rw [Option.map_some, sp]
theorem pl_tb {env : Env} {r i n x : Nat} {t : Nat → Nat → Option Int} (h4 : env[r]? = some (tb true n t)) (h5 : env[i]? = some (.int (x : Int))) (hx : x < n) : plIx r (plN r) (eV i) env = .ok [x] := by
  simp [sSeq, sForget, sIf, sSet, sRet, sPass, sCont, sBreak, sRetN, sDrop, sSetIx, sApp, sAsg, lf, eTest, eTru, toBl, eOp2, eV, eC, eSh, toShd, eFz, fFz, eIf, fIf, fTest, fOp2, eAnd, eOr, eNot, eAndV, eOrV, eNotV, eTup, eLst, eNil, eCons, fNil, fCons, fTup, fLst, eCB, fCB, eUn, pNeg, eSl, oNone, oSome, toIntO, pSub, pMul, pDiv, pMod, pPow, pLt, pLe, pGt, pGe, intOp, cT, cDiv, cMod, cPow, pAbs, pInt, pMax2, pMin2, plN, plIx, RPs, RPe, atP, getP, setP, setD, appD, okL, ixStep, eCall, eCallB, apN, fMv, fMvP, bName, bTup, bCons, bNil, wipeD, shd, frz, cIt, itE, eIsi, isiB, argsAt, restD, vsOk, Fl.val, nx, nxE, stp, isScal, updP, h4, h5, tb, ixN_ok hx, hx]
theorem tb_ne {o : Bool} {n : Nat} {t : Nat → Nat → Option Int} : tb o n t ≠ .unk := fun z => nomatch z
def cols (n : Nat) (t : Nat → Nat → Option Int) : List Nat := (List.range n).filter fun e => (t 0 e).isSome
def colD (n : Nat) (t : Nat → Nat → Option Int) : D := .lst ((cols n t).map fun e => .int (e : Nat))
theorem cols_mem {n e : Nat} {t : Nat → Nat → Option Int} : e ∈ cols n t ↔ e < n ∧ t 0 e ≠ none := by
  unfold cols; rw [List.mem_filter, List.mem_range]
  cases h : t 0 e <;> simp [sSeq, sForget, sIf, sSet, sRet, sPass, sCont, sBreak, sRetN, sDrop, sSetIx, sApp, sAsg, lf, eTest, eTru, toBl, eOp2, eV, eC, eSh, toShd, eFz, fFz, eIf, fIf, fTest, fOp2, eAnd, eOr, eNot, eAndV, eOrV, eNotV, eTup, eLst, eNil, eCons, fNil, fCons, fTup, fLst, eCB, fCB, eUn, pNeg, eSl, oNone, oSome, toIntO, pSub, pMul, pDiv, pMod, pPow, pLt, pLe, pGt, pGe, intOp, cT, cDiv, cMod, cPow, pAbs, pInt, pMax2, pMin2, plN, plIx, RPs, RPe, atP, getP, setP, setD, appD, okL, ixStep, eCall, eCallB, apN, fMv, fMvP, bName, bTup, bCons, bNil, wipeD, shd, frz, cIt, itE, eIsi, isiB, argsAt, restD, vsOk, Fl.val, nx, nxE, stp, isScal, updP]
theorem shd_cols {n : Nat} {t : Nat → Nat → Option Int} : shds ((cols n t).map fun e => D.int (e : Nat)) = true := by rw [shds_all]; simp [sSeq, sForget, sIf, sSet, sRet, sPass, sCont, sBreak, sRetN, sDrop, sSetIx, sApp, sAsg, lf, eTest, eTru, toBl, eOp2, eV, eC, eSh, toShd, eFz, fFz, eIf, fIf, fTest, fOp2, eAnd, eOr, eNot, eAndV, eOrV, eNotV, eTup, eLst, eNil, eCons, fNil, fCons, fTup, fLst, eCB, fCB, eUn, pNeg, eSl, oNone, oSome, toIntO, pSub, pMul, pDiv, pMod, pPow, pLt, pLe, pGt, pGe, intOp, cT, cDiv, cMod, cPow, pAbs, pInt, pMax2, pMin2, plN, plIx, RPs, RPe, atP, getP, setP, setD, appD, okL, ixStep, eCall, eCallB, apN, fMv, fMvP, bName, bTup, bCons, bNil, wipeD, shd, frz, cIt, itE, eIsi, isiB, argsAt, restD, vsOk, Fl.val, nx, nxE, stp, isScal, updP, List.all_map, Function.comp_def, shd]
@[simp] theorem shd_col {n : Nat} {t : Nat → Nat → Option Int} : shd (colD n t) = true := by simp [sSeq, sForget, sIf, sSet, sRet, sPass, sCont, sBreak, sRetN, sDrop, sSetIx, sApp, sAsg, lf, eTest, eTru, toBl, eOp2, eV, eC, eSh, toShd, eFz, fFz, eIf, fIf, fTest, fOp2, eAnd, eOr, eNot, eAndV, eOrV, eNotV, eTup, eLst, eNil, eCons, fNil, fCons, fTup, fLst, eCB, fCB, eUn, pNeg, eSl, oNone, oSome, toIntO, pSub, pMul, pDiv, pMod, pPow, pLt, pLe, pGt, pGe, intOp, cT, cDiv, cMod, cPow, pAbs, pInt, pMax2, pMin2, plN, plIx, RPs, RPe, atP, getP, setP, setD, appD, okL, ixStep, eCall, eCallB, apN, fMv, fMvP, bName, bTup, bCons, bNil, wipeD, shd, frz, cIt, itE, eIsi, isiB, argsAt, restD, vsOk, Fl.val, nx, nxE, stp, isScal, updP, colD, shd_cols]
theorem cols_len {n : Nat} {t : Nat → Nat → Option Int} : (cols n t).length ≤ n := by
  have := List.length_filter_le (fun e => (t 0 e).isSome) (List.range n)
  rw [List.length_range] at this; exact this
theorem drawn_cols {n : Nat} {s m k x : D} {t : Nat → Nat → Option Int} (hn : n ≤ 6) (hn1 : 1 ≤ n) (hm : shd m = true) (hk : shd k = true) :
    eFz (eLc (cItA itR1 (eCons (eV 1) eNil)) (bName 7) (eTest (eOp2 pIsNot (eOp2 pIx (eOp2 pIx (eP 4) (eC (.int 0))) (eV 7)) (eC .non))) (eV 7) [7]) [s, .int n, m, k, tb true n t, x, .unk, .unk, .unk, .unk] = .ok (colD n t) := by
  have e1 := eLc_ok (c := eTest (eOp2 pIsNot (eOp2 pIx (eOp2 pIx (eP 4) (eC (.int 0))) (eV 7)) (eC .non))) (el := eV 7) (g := bName 7) (vs := [7]) (env := [s, .int n, m, k, tb true n t, x, .unk, .unk, .unk, .unk]) (rng1 (f := eCons (eV 1) eNil) (n := n) (by simp [sSeq, sForget, sIf, sSet, sRet, sPass, sCont, sBreak, sRetN, sDrop, sSetIx, sApp, sAsg, lf, eTest, eTru, toBl, eOp2, eV, eC, eSh, toShd, eFz, fFz, eIf, fIf, fTest, fOp2, eAnd, eOr, eNot, eAndV, eOrV, eNotV, eTup, eLst, eNil, eCons, fNil, fCons, fTup, fLst, eCB, fCB, eUn, pNeg, eSl, oNone, oSome, toIntO, pSub, pMul, pDiv, pMod, pPow, pLt, pLe, pGt, pGe, intOp, cT, cDiv, cMod, cPow, pAbs, pInt, pMax2, pMin2, plN, plIx, RPs, RPe, atP, getP, setP, setD, appD, okL, ixStep, eCall, eCallB, apN, fMv, fMvP, bName, bTup, bCons, bNil, wipeD, shd, frz, cIt, itE, eIsi, isiB, argsAt, restD, vsOk, Fl.val, nx, nxE, stp, isScal, updP]) (by omega)) (by simp [sSeq, sForget, sIf, sSet, sRet, sPass, sCont, sBreak, sRetN, sDrop, sSetIx, sApp, sAsg, lf, eTest, eTru, toBl, eOp2, eV, eC, eSh, toShd, eFz, fFz, eIf, fIf, fTest, fOp2, eAnd, eOr, eNot, eAndV, eOrV, eNotV, eTup, eLst, eNil, eCons, fNil, fCons, fTup, fLst, eCB, fCB, eUn, pNeg, eSl, oNone, oSome, toIntO, pSub, pMul, pDiv, pMod, pPow, pLt, pLe, pGt, pGe, intOp, cT, cDiv, cMod, cPow, pAbs, pInt, pMax2, pMin2, plN, plIx, RPs, RPe, atP, getP, setP, setD, appD, okL, ixStep, eCall, eCallB, apN, fMv, fMvP, bName, bTup, bCons, bNil, wipeD, shd, frz, cIt, itE, eIsi, isiB, argsAt, restD, vsOk, Fl.val, nx, nxE, stp, isScal, updP]; exact size_ok (by omega)) (lcGo_map (item := fun e : Nat => .int (e : Nat)) (p := fun e => (t 0 e).isSome) (h := fun e : Nat => .int (e : Nat)) (List.range n) (fun e he => by
    have a1 : pIx (tb true n t) (.int 0) = _ := ix_tb (x := 0) (by omega)
    have a2 := ix_row (o := true) (f := t 0) (List.mem_range.mp he)
    refine ⟨_, rfl, ?_, fun _ => by simp [sSeq, sForget, sIf, sSet, sRet, sPass, sCont, sBreak, sRetN, sDrop, sSetIx, sApp, sAsg, lf, eTest, eTru, toBl, eOp2, eV, eC, eSh, toShd, eFz, fFz, eIf, fIf, fTest, fOp2, eAnd, eOr, eNot, eAndV, eOrV, eNotV, eTup, eLst, eNil, eCons, fNil, fCons, fTup, fLst, eCB, fCB, eUn, pNeg, eSl, oNone, oSome, toIntO, pSub, pMul, pDiv, pMod, pPow, pLt, pLe, pGt, pGe, intOp, cT, cDiv, cMod, cPow, pAbs, pInt, pMax2, pMin2, plN, plIx, RPs, RPe, atP, getP, setP, setD, appD, okL, ixStep, eCall, eCallB, apN, fMv, fMvP, bName, bTup, bCons, bNil, wipeD, shd, frz, cIt, itE, eIsi, isiB, argsAt, restD, vsOk, Fl.val, nx, nxE, stp, isScal, updP]⟩
    have u : ∀ {d : D}, tb true n t = d → d ≠ .unk := fun h => h ▸ tb_ne
    cases h : t 0 e <;> simp [sSeq, sForget, sIf, sSet, sRet, sPass, sCont, sBreak, sRetN, sDrop, sSetIx, sApp, sAsg, lf, eTest, eTru, toBl, eOp2, eV, eC, eSh, toShd, eFz, fFz, eIf, fIf, fTest, fOp2, eAnd, eOr, eNot, eAndV, eOrV, eNotV, eTup, eLst, eNil, eCons, fNil, fCons, fTup, fLst, eCB, fCB, eUn, pNeg, eSl, oNone, oSome, toIntO, pSub, pMul, pDiv, pMod, pPow, pLt, pLe, pGt, pGe, intOp, cT, cDiv, cMod, cPow, pAbs, pInt, pMax2, pMin2, plN, plIx, RPs, RPe, atP, getP, setP, setD, appD, okL, ixStep, eCall, eCallB, apN, fMv, fMvP, bName, bTup, bCons, bNil, wipeD, shd, frz, cIt, itE, eIsi, isiB, argsAt, restD, vsOk, Fl.val, nx, nxE, stp, isScal, updP, tb] at a1 ⊢ <;> simp [sSeq, sForget, sIf, sSet, sRet, sPass, sCont, sBreak, sRetN, sDrop, sSetIx, sApp, sAsg, lf, eTest, eTru, toBl, eOp2, eV, eC, eSh, toShd, eFz, fFz, eIf, fIf, fTest, fOp2, eAnd, eOr, eNot, eAndV, eOrV, eNotV, eTup, eLst, eNil, eCons, fNil, fCons, fTup, fLst, eCB, fCB, eUn, pNeg, eSl, oNone, oSome, toIntO, pSub, pMul, pDiv, pMod, pPow, pLt, pLe, pGt, pGe, intOp, cT, cDiv, cMod, cPow, pAbs, pInt, pMax2, pMin2, plN, plIx, RPs, RPe, atP, getP, setP, setD, appD, okL, ixStep, eCall, eCallB, apN, fMv, fMvP, bName, bTup, bCons, bNil, wipeD, shd, frz, cIt, itE, eIsi, isiB, argsAt, restD, vsOk, Fl.val, nx, nxE, stp, isScal, updP, tb, a1, a2, h]))
  unfold eFz
  rw [e1]
  show DP.R.ok (frz (.own ((cols n t).map fun e => .int (e : Nat)))) = _
  simp [sSeq, sForget, sIf, sSet, sRet, sPass, sCont, sBreak, sRetN, sDrop, sSetIx, sApp, sAsg, lf, eTest, eTru, toBl, eOp2, eV, eC, eSh, toShd, eFz, fFz, eIf, fIf, fTest, fOp2, eAnd, eOr, eNot, eAndV, eOrV, eNotV, eTup, eLst, eNil, eCons, fNil, fCons, fTup, fLst, eCB, fCB, eUn, pNeg, eSl, oNone, oSome, toIntO, pSub, pMul, pDiv, pMod, pPow, pLt, pLe, pGt, pGe, intOp, cT, cDiv, cMod, cPow, pAbs, pInt, pMax2, pMin2, plN, plIx, RPs, RPe, atP, getP, setP, setD, appD, okL, ixStep, eCall, eCallB, apN, fMv, fMvP, bName, bTup, bCons, bNil, wipeD, shd, frz, cIt, itE, eIsi, isiB, argsAt, restD, vsOk, Fl.val, nx, nxE, stp, isScal, updP, colD, frzs_map, List.map_map, Function.comp_def]
theorem rep_fill {n x : Nat} {s m k c tc : D} {t : Nat → Nat → Option Int} {most : Nat} (hs : IsS s) (hm : m = .int most) (hn : n ≤ 6) (hm2 : most ≤ 100000000) (hk : shd k = true) :
    ∃ s' t', IsS s' ∧ (∀ e, t 0 e ≠ none → t' 0 e ≠ none) ∧ sFor (cIt itL (eV 6)) (bName 8) b2_law_d_drawn_table [s, .int n, m, k, tb true n t, .int x, colD n t, tc, .unk, .unk] = .nx [s', .int n, m, k, tb true n t', .int x, colD n t, tc, .unk, .unk] := by
  subst hm
  have inner : ∀ (y : Nat) s1 t1, y < n → IsS s1 → (∀ e, t 0 e ≠ none → t1 0 e ≠ none) → ∃ s' t', IsS s' ∧ (∀ e, t 0 e ≠ none → t' 0 e ≠ none) ∧ sFor (cItA itR1 (eCons (eV 1) eNil)) (bName 9) b1_law_d_drawn_table [s1, .int n, .int most, k, tb true n t1, .int x, colD n t, tc, .int y, .unk] = .nx [s', .int n, .int most, k, tb true n t', .int x, colD n t, tc, .int y, .unk] := fun y s1 t1 hy hs1 ht1 => by
    obtain ⟨e, h1, s', t', h2, h3, rfl⟩ := for_keep (b := bName 9) (f := b1_law_d_drawn_table) (I := fun e => ∃ s' t', IsS s' ∧ (∀ e, t 0 e ≠ none → t' 0 e ≠ none) ∧ e = [s', .int n, .int most, k, tb true n t', .int x, colD n t, tc, .int y, .unk]) ((List.range n).map fun z => .int (z : Nat)) [s1, .int n, .int most, k, tb true n t1, .int x, colD n t, tc, .int y, .unk] ⟨s1, t1, hs1, ht1, rfl⟩ (by
      rintro d hd e ⟨s2, t2, h1, h2, rfl⟩
      obtain ⟨z, hz, rfl⟩ := List.mem_map.mp hd
      have hz' := List.mem_range.mp hz
      obtain ⟨v, s3, q1, q2, q3, q4⟩ := call_pick (r := 0) (env := [s2, .int n, .int most, k, tb true n t2, .int x, colD n t, tc, .int y, .int z]) (fa := fCons (lf (eOp2 pAdd (eV 2) (eC (.int 1)))) fNil) (m := (most : Int) + 1) rfl h1 (by omega) (by omega) (by simp [sSeq, sForget, sIf, sSet, sRet, sPass, sCont, sBreak, sRetN, sDrop, sSetIx, sApp, sAsg, lf, eTest, eTru, toBl, eOp2, eV, eC, eSh, toShd, eFz, fFz, eIf, fIf, fTest, fOp2, eAnd, eOr, eNot, eAndV, eOrV, eNotV, eTup, eLst, eNil, eCons, fNil, fCons, fTup, fLst, eCB, fCB, eUn, pNeg, eSl, oNone, oSome, toIntO, pSub, pMul, pDiv, pMod, pPow, pLt, pLe, pGt, pGe, intOp, cT, cDiv, cMod, cPow, pAbs, pInt, pMax2, pMin2, plN, plIx, RPs, RPe, atP, getP, setP, setD, appD, okL, ixStep, eCall, eCallB, apN, fMv, fMvP, bName, bTup, bCons, bNil, wipeD, shd, frz, cIt, itE, eIsi, isiB, argsAt, restD, vsOk, Fl.val, nx, nxE, stp, isScal, updP])
      have p1 := pl_tb (env := [s3, .int n, .int most, k, tb true n t2, .int x, colD n t, tc, .int y, .int z]) (r := 4) (i := 9) (x := z) rfl rfl hz'
      have u1 := upd_tb (env := [s3, .int n, .int most, k, tb true n t2, .int x, colD n t, tc, .int y, .int z]) (r := 4) (x := z) (e := y) (v := .int v) (o := some v) rfl hz' hy rfl
      refine ⟨_, .inl ?_, s3, up t2 z y (some v), q1, fun e he => ?_, rfl⟩
      · have E : b1_law_d_drawn_table [s2, .int n, .int most, k, tb true n t2, .int x, colD n t, tc, .int y, .int z] = .nx [s3, .int n, .int most, k, tb true n (up t2 z y (some v)), .int x, colD n t, tc, .int y, .unk] := by
          unfold b1_law_d_drawn_table sForget sSetIx
          rw [q4]
          simp only [REs_ok, List.set_cons_zero, p1, RPs_ok]
          have : lf (eV 8) [s3, .int n, .int most, k, tb true n t2, .int x, colD n t, tc, .int y, .int z] = .ok (.int y) [s3, .int n, .int most, k, tb true n t2, .int x, colD n t, tc, .int y, .int z] := by simp [sSeq, sForget, sIf, sSet, sRet, sPass, sCont, sBreak, sRetN, sDrop, sSetIx, sApp, sAsg, lf, eTest, eTru, toBl, eOp2, eV, eC, eSh, toShd, eFz, fFz, eIf, fIf, fTest, fOp2, eAnd, eOr, eNot, eAndV, eOrV, eNotV, eTup, eLst, eNil, eCons, fNil, fCons, fTup, fLst, eCB, fCB, eUn, pNeg, eSl, oNone, oSome, toIntO, pSub, pMul, pDiv, pMod, pPow, pLt, pLe, pGt, pGe, intOp, cT, cDiv, cMod, cPow, pAbs, pInt, pMax2, pMin2, plN, plIx, RPs, RPe, atP, getP, setP, setD, appD, okL, ixStep, eCall, eCallB, apN, fMv, fMvP, bName, bTup, bCons, bNil, wipeD, shd, frz, cIt, itE, eIsi, isiB, argsAt, restD, vsOk, Fl.val, nx, nxE, stp, isScal, updP]
          rw [this, REs_ok, u1]
          rfl
        exact E
      · unfold up; split
        · simp [sSeq, sForget, sIf, sSet, sRet, sPass, sCont, sBreak, sRetN, sDrop, sSetIx, sApp, sAsg, lf, eTest, eTru, toBl, eOp2, eV, eC, eSh, toShd, eFz, fFz, eIf, fIf, fTest, fOp2, eAnd, eOr, eNot, eAndV, eOrV, eNotV, eTup, eLst, eNil, eCons, fNil, fCons, fTup, fLst, eCB, fCB, eUn, pNeg, eSl, oNone, oSome, toIntO, pSub, pMul, pDiv, pMod, pPow, pLt, pLe, pGt, pGe, intOp, cT, cDiv, cMod, cPow, pAbs, pInt, pMax2, pMin2, plN, plIx, RPs, RPe, atP, getP, setP, setD, appD, okL, ixStep, eCall, eCallB, apN, fMv, fMvP, bName, bTup, bCons, bNil, wipeD, shd, frz, cIt, itE, eIsi, isiB, argsAt, restD, vsOk, Fl.val, nx, nxE, stp, isScal, updP]
        · exact h2 e he)
    refine ⟨s', t', h2, h3, ?_⟩
    rw [sFor_ok (rng1 (n := n) (by simp [sSeq, sForget, sIf, sSet, sRet, sPass, sCont, sBreak, sRetN, sDrop, sSetIx, sApp, sAsg, lf, eTest, eTru, toBl, eOp2, eV, eC, eSh, toShd, eFz, fFz, eIf, fIf, fTest, fOp2, eAnd, eOr, eNot, eAndV, eOrV, eNotV, eTup, eLst, eNil, eCons, fNil, fCons, fTup, fLst, eCB, fCB, eUn, pNeg, eSl, oNone, oSome, toIntO, pSub, pMul, pDiv, pMod, pPow, pLt, pLe, pGt, pGe, intOp, cT, cDiv, cMod, cPow, pAbs, pInt, pMax2, pMin2, plN, plIx, RPs, RPe, atP, getP, setP, setD, appD, okL, ixStep, eCall, eCallB, apN, fMv, fMvP, bName, bTup, bCons, bNil, wipeD, shd, frz, cIt, itE, eIsi, isiB, argsAt, restD, vsOk, Fl.val, nx, nxE, stp, isScal, updP]) (by omega))]
    exact h1
  obtain ⟨e, h1, s', t', h2, h3, rfl⟩ := for_keep (b := bName 8) (f := b2_law_d_drawn_table) (I := fun e => ∃ s' t', IsS s' ∧ (∀ e, t 0 e ≠ none → t' 0 e ≠ none) ∧ e = [s', .int n, .int most, k, tb true n t', .int x, colD n t, tc, .unk, .unk]) ((cols n t).map fun y => .int (y : Nat)) [s, .int n, .int most, k, tb true n t, .int x, colD n t, tc, .unk, .unk] ⟨s, t, hs, fun _ h => h, rfl⟩ (by
    rintro d hd e ⟨s2, t2, h1, h2, rfl⟩
    obtain ⟨y, hy, rfl⟩ := List.mem_map.mp hd
    obtain ⟨s3, t3, q1, q2, q3⟩ := inner y s2 t2 (cols_mem.mp hy).1 h1 h2
    refine ⟨_, .inl ?_, s3, t3, q1, q2, rfl⟩
    have E : b2_law_d_drawn_table [s2, .int n, .int most, k, tb true n t2, .int x, colD n t, tc, .int y, .unk] = .nx [s3, .int n, .int most, k, tb true n t3, .int x, colD n t, tc, .unk, .unk] := by
      exact forget_nx (forget_nx q3)
    rw [stp_name]
    exact E)
  refine ⟨s', t', h2, h3, ?_⟩
  rw [sFor_ok (ds := (cols n t).map fun y => .int (y : Nat))]
  · exact h1
  · simp [sSeq, sForget, sIf, sSet, sRet, sPass, sCont, sBreak, sRetN, sDrop, sSetIx, sApp, sAsg, lf, eTest, eTru, toBl, eOp2, eV, eC, eSh, toShd, eFz, fFz, eIf, fIf, fTest, fOp2, eAnd, eOr, eNot, eAndV, eOrV, eNotV, eTup, eLst, eNil, eCons, fNil, fCons, fTup, fLst, eCB, fCB, eUn, pNeg, eSl, oNone, oSome, toIntO, pSub, pMul, pDiv, pMod, pPow, pLt, pLe, pGt, pGe, intOp, cT, cDiv, cMod, cPow, pAbs, pInt, pMax2, pMin2, plN, plIx, RPs, RPe, atP, getP, setP, setD, appD, okL, ixStep, eCall, eCallB, apN, fMv, fMvP, bName, bTup, bCons, bNil, wipeD, shd, frz, cIt, itE, eIsi, isiB, argsAt, restD, vsOk, Fl.val, nx, nxE, stp, isScal, updP, colD, shd_cols]
theorem some_ne {t : Nat → Nat → Option Int} {x e : Nat} (hu : ∀ x e, (t x e).isSome = (t 0 e).isSome) (h : t 0 e ≠ none) : ∃ v, t x e = some v := by
  have h1 := hu x e
  cases q : t 0 e with
  | none => exact absurd q h
  | some w =>
    rw [q] at h1
    cases q2 : t x e with
    | none => rw [q2] at h1; cases h1
    | some v => exact ⟨v, rfl⟩
theorem drawn_end {n : Nat} {a b c d e f g h i : D} {t : Nat → Nat → Option Int} : (sRet (fMv 4) [a, b, c, d, tb true n t, e, f, g, h, i]).val = .ok (tb true n t) := by
  unfold sRet fMv
  rfl
theorem drawn_spec {s : D} (hs : IsS s) : ∃ n t, 1 ≤ n ∧ n ≤ 6 ∧ (∃ e, e < n ∧ t 0 e ≠ none) ∧ (f_law_d_drawn_table [s]).dr = .ok (tb true n t) := by
  obtain ⟨x1, s1, a1, a2, a3, a4⟩ := call_pick (r := 0) (env := [s, .unk, .unk, .unk, .unk, .unk, .unk, .unk, .unk, .unk]) (fa := fCons (lf (eC (.int 6))) fNil) (m := 6) rfl hs (by omega) (by omega) (by simp [sSeq, sForget, sIf, sSet, sRet, sPass, sCont, sBreak, sRetN, sDrop, sSetIx, sApp, sAsg, lf, eTest, eTru, toBl, eOp2, eV, eC, eSh, toShd, eFz, fFz, eIf, fIf, fTest, fOp2, eAnd, eOr, eNot, eAndV, eOrV, eNotV, eTup, eLst, eNil, eCons, fNil, fCons, fTup, fLst, eCB, fCB, eUn, pNeg, eSl, oNone, oSome, toIntO, pSub, pMul, pDiv, pMod, pPow, pLt, pLe, pGt, pGe, intOp, cT, cDiv, cMod, cPow, pAbs, pInt, pMax2, pMin2, plN, plIx, RPs, RPe, atP, getP, setP, setD, appD, okL, ixStep, eCall, eCallB, apN, fMv, fMvP, bName, bTup, bCons, bNil, wipeD, shd, frz, cIt, itE, eIsi, isiB, argsAt, restD, vsOk, Fl.val, nx, nxE, stp, isScal, updP])
  obtain ⟨n, hn⟩ : ∃ n : Nat, 1 + x1 = (n : Int) := ⟨(1 + x1).toNat, by omega⟩
  have n1 : 1 ≤ n := by omega
  have n6 : n ≤ 6 := by omega
  have st1 : sSet 1 (fOp2 pAdd (lf (eC (.int 1))) (fCallM 0 2 f_law_pick (fCons (lf (eC (.int 6))) fNil))) [s, .unk, .unk, .unk, .unk, .unk, .unk, .unk, .unk, .unk] = .nx [s1, .int n, .unk, .unk, .unk, .unk, .unk, .unk, .unk, .unk] := by
    simp [sSeq, sForget, sIf, sSet, sRet, sPass, sCont, sBreak, sRetN, sDrop, sSetIx, sApp, sAsg, lf, eTest, eTru, toBl, eOp2, eV, eC, eSh, toShd, eFz, fFz, eIf, fIf, fTest, fOp2, eAnd, eOr, eNot, eAndV, eOrV, eNotV, eTup, eLst, eNil, eCons, fNil, fCons, fTup, fLst, eCB, fCB, eUn, pNeg, eSl, oNone, oSome, toIntO, pSub, pMul, pDiv, pMod, pPow, pLt, pLe, pGt, pGe, intOp, cT, cDiv, cMod, cPow, pAbs, pInt, pMax2, pMin2, plN, plIx, RPs, RPe, atP, getP, setP, setD, appD, okL, ixStep, eCall, eCallB, apN, fMv, fMvP, bName, bTup, bCons, bNil, wipeD, shd, frz, cIt, itE, eIsi, isiB, argsAt, restD, vsOk, Fl.val, nx, nxE, stp, isScal, updP, a4, hn]
  obtain ⟨x2, s2, b1, b2, b3, b4⟩ := call_pick (r := 0) (env := [s1, .int n, .unk, .unk, .unk, .unk, .unk, .unk, .unk, .unk]) (fa := fCons (lf (eC (.int 6))) fNil) (m := 6) rfl a1 (by omega) (by omega) (by simp [sSeq, sForget, sIf, sSet, sRet, sPass, sCont, sBreak, sRetN, sDrop, sSetIx, sApp, sAsg, lf, eTest, eTru, toBl, eOp2, eV, eC, eSh, toShd, eFz, fFz, eIf, fIf, fTest, fOp2, eAnd, eOr, eNot, eAndV, eOrV, eNotV, eTup, eLst, eNil, eCons, fNil, fCons, fTup, fLst, eCB, fCB, eUn, pNeg, eSl, oNone, oSome, toIntO, pSub, pMul, pDiv, pMod, pPow, pLt, pLe, pGt, pGe, intOp, cT, cDiv, cMod, cPow, pAbs, pInt, pMax2, pMin2, plN, plIx, RPs, RPe, atP, getP, setP, setD, appD, okL, ixStep, eCall, eCallB, apN, fMv, fMvP, bName, bTup, bCons, bNil, wipeD, shd, frz, cIt, itE, eIsi, isiB, argsAt, restD, vsOk, Fl.val, nx, nxE, stp, isScal, updP])
  obtain ⟨most, m1, m2, st2⟩ : ∃ most : Nat, 1 ≤ most ∧ most ≤ 100000000 ∧ sSet 2 (fIf (fTest (fOp2 pEq (fCallM 0 2 f_law_pick (fCons (lf (eC (.int 6))) fNil)) (lf (eC (.int 0))))) (lf (eC (.int 100000000))) (lf (eC (.int 4)))) [s1, .int n, .unk, .unk, .unk, .unk, .unk, .unk, .unk, .unk] = .nx [s2, .int n, .int most, .unk, .unk, .unk, .unk, .unk, .unk, .unk] := by
    by_cases c : x2 = 0
    · exact ⟨100000000, by omega, by omega, by simp [sSeq, sForget, sIf, sSet, sRet, sPass, sCont, sBreak, sRetN, sDrop, sSetIx, sApp, sAsg, lf, eTest, eTru, toBl, eOp2, eV, eC, eSh, toShd, eFz, fFz, eIf, fIf, fTest, fOp2, eAnd, eOr, eNot, eAndV, eOrV, eNotV, eTup, eLst, eNil, eCons, fNil, fCons, fTup, fLst, eCB, fCB, eUn, pNeg, eSl, oNone, oSome, toIntO, pSub, pMul, pDiv, pMod, pPow, pLt, pLe, pGt, pGe, intOp, cT, cDiv, cMod, cPow, pAbs, pInt, pMax2, pMin2, plN, plIx, RPs, RPe, atP, getP, setP, setD, appD, okL, ixStep, eCall, eCallB, apN, fMv, fMvP, bName, bTup, bCons, bNil, wipeD, shd, frz, cIt, itE, eIsi, isiB, argsAt, restD, vsOk, Fl.val, nx, nxE, stp, isScal, updP, b4, c]⟩
    · exact ⟨4, by omega, by omega, by simp [sSeq, sForget, sIf, sSet, sRet, sPass, sCont, sBreak, sRetN, sDrop, sSetIx, sApp, sAsg, lf, eTest, eTru, toBl, eOp2, eV, eC, eSh, toShd, eFz, fFz, eIf, fIf, fTest, fOp2, eAnd, eOr, eNot, eAndV, eOrV, eNotV, eTup, eLst, eNil, eCons, fNil, fCons, fTup, fLst, eCB, fCB, eUn, pNeg, eSl, oNone, oSome, toIntO, pSub, pMul, pDiv, pMod, pPow, pLt, pLe, pGt, pGe, intOp, cT, cDiv, cMod, cPow, pAbs, pInt, pMax2, pMin2, plN, plIx, RPs, RPe, atP, getP, setP, setD, appD, okL, ixStep, eCall, eCallB, apN, fMv, fMvP, bName, bTup, bCons, bNil, wipeD, shd, frz, cIt, itE, eIsi, isiB, argsAt, restD, vsOk, Fl.val, nx, nxE, stp, isScal, updP, b4, c]⟩
  obtain ⟨k, s3, c1, c2, c3, c4⟩ := call_pick (r := 0) (env := [s2, .int n, .int most, .unk, .unk, .unk, .unk, .unk, .unk, .unk]) (fa := fCons (lf (eC (.int 6))) fNil) (m := 6) rfl b1 (by omega) (by omega) (by simp [sSeq, sForget, sIf, sSet, sRet, sPass, sCont, sBreak, sRetN, sDrop, sSetIx, sApp, sAsg, lf, eTest, eTru, toBl, eOp2, eV, eC, eSh, toShd, eFz, fFz, eIf, fIf, fTest, fOp2, eAnd, eOr, eNot, eAndV, eOrV, eNotV, eTup, eLst, eNil, eCons, fNil, fCons, fTup, fLst, eCB, fCB, eUn, pNeg, eSl, oNone, oSome, toIntO, pSub, pMul, pDiv, pMod, pPow, pLt, pLe, pGt, pGe, intOp, cT, cDiv, cMod, cPow, pAbs, pInt, pMax2, pMin2, plN, plIx, RPs, RPe, atP, getP, setP, setD, appD, okL, ixStep, eCall, eCallB, apN, fMv, fMvP, bName, bTup, bCons, bNil, wipeD, shd, frz, cIt, itE, eIsi, isiB, argsAt, restD, vsOk, Fl.val, nx, nxE, stp, isScal, updP])
  have st3 : sSet 3 (fCallM 0 2 f_law_pick (fCons (lf (eC (.int 6))) fNil)) [s2, .int n, .int most, .unk, .unk, .unk, .unk, .unk, .unk, .unk] = .nx [s3, .int n, .int most, .int k, .unk, .unk, .unk, .unk, .unk, .unk] := by
    simp [sSeq, sForget, sIf, sSet, sRet, sPass, sCont, sBreak, sRetN, sDrop, sSetIx, sApp, sAsg, lf, eTest, eTru, toBl, eOp2, eV, eC, eSh, toShd, eFz, fFz, eIf, fIf, fTest, fOp2, eAnd, eOr, eNot, eAndV, eOrV, eNotV, eTup, eLst, eNil, eCons, fNil, fCons, fTup, fLst, eCB, fCB, eUn, pNeg, eSl, oNone, oSome, toIntO, pSub, pMul, pDiv, pMod, pPow, pLt, pLe, pGt, pGe, intOp, cT, cDiv, cMod, cPow, pAbs, pInt, pMax2, pMin2, plN, plIx, RPs, RPe, atP, getP, setP, setD, appD, okL, ixStep, eCall, eCallB, apN, fMv, fMvP, bName, bTup, bCons, bNil, wipeD, shd, frz, cIt, itE, eIsi, isiB, argsAt, restD, vsOk, Fl.val, nx, nxE, stp, isScal, updP, c4]
  obtain ⟨t, s4, d1, d2, d3, d4⟩ := sum_spec (most := most) c1 n6 n1 m2
  have st4 : sSet 4 (fCallM 0 3 f_law_d_sum_table (fCons (lf (eV 1)) (fCons (lf (eV 2)) fNil))) [s3, .int n, .int most, .int k, .unk, .unk, .unk, .unk, .unk, .unk] = .nx [s4, .int n, .int most, .int k, tb true n t, .unk, .unk, .unk, .unk, .unk] := by
    have := callM_ok (r := 0) (n := 3) (f := f_law_d_sum_table) (env := [s3, .int n, .int most, .int k, .unk, .unk, .unk, .unk, .unk, .unk]) (fa := fCons (lf (eV 1)) (fCons (lf (eV 2)) fNil)) rfl c1.ne (by simp [sSeq, sForget, sIf, sSet, sRet, sPass, sCont, sBreak, sRetN, sDrop, sSetIx, sApp, sAsg, lf, eTest, eTru, toBl, eOp2, eV, eC, eSh, toShd, eFz, fFz, eIf, fIf, fTest, fOp2, eAnd, eOr, eNot, eAndV, eOrV, eNotV, eTup, eLst, eNil, eCons, fNil, fCons, fTup, fLst, eCB, fCB, eUn, pNeg, eSl, oNone, oSome, toIntO, pSub, pMul, pDiv, pMod, pPow, pLt, pLe, pGt, pGe, intOp, cT, cDiv, cMod, cPow, pAbs, pInt, pMax2, pMin2, plN, plIx, RPs, RPe, atP, getP, setP, setD, appD, okL, ixStep, eCall, eCallB, apN, fMv, fMvP, bName, bTup, bCons, bNil, wipeD, shd, frz, cIt, itE, eIsi, isiB, argsAt, restD, vsOk, Fl.val, nx, nxE, stp, isScal, updP]; rfl) rfl d4
    unfold sSet
    rw [this]; rfl
  have fin : ∀ r, (m_law_d_drawn_table [s, .unk, .unk, .unk, .unk, .unk, .unk, .unk, .unk, .unk]).val = r → (f_law_d_drawn_table [s]).dr = r := fun r h => mkF_val rfl h
  by_cases k3 : k < 3
  · refine ⟨n, t, n1, n6, d2, fin _ ?_⟩
    unfold m_law_d_drawn_table
    refine seqv st1 (seqv st2 (seqv st3 (seqv st4 ?_)))
    have : sIf (lf (eTest (eOp2 pLt (eV 3) (eC (.int 3))))) (sRet (fMv 4)) sPass [s4, .int n, .int most, .int k, tb true n t, .unk, .unk, .unk, .unk, .unk] = .rt (tb true n t) [s4, .int n, .int most, .int k, .unk, .unk, .unk, .unk, .unk, .unk] := by
      simp [sSeq, sForget, sIf, sSet, sRet, sPass, sCont, sBreak, sRetN, sDrop, sSetIx, sApp, sAsg, lf, eTest, eTru, toBl, eOp2, eV, eC, eSh, toShd, eFz, fFz, eIf, fIf, fTest, fOp2, eAnd, eOr, eNot, eAndV, eOrV, eNotV, eTup, eLst, eNil, eCons, fNil, fCons, fTup, fLst, eCB, fCB, eUn, pNeg, eSl, oNone, oSome, toIntO, pSub, pMul, pDiv, pMod, pPow, pLt, pLe, pGt, pGe, intOp, cT, cDiv, cMod, cPow, pAbs, pInt, pMax2, pMin2, plN, plIx, RPs, RPe, atP, getP, setP, setD, appD, okL, ixStep, eCall, eCallB, apN, fMv, fMvP, bName, bTup, bCons, bNil, wipeD, shd, frz, cIt, itE, eIsi, isiB, argsAt, restD, vsOk, Fl.val, nx, nxE, stp, isScal, updP, k3, tb]
    rw [seq_rt this]; rfl
  have st5 : sIf (lf (eTest (eOp2 pLt (eV 3) (eC (.int 3))))) (sRet (fMv 4)) sPass [s4, .int n, .int most, .int k, tb true n t, .unk, .unk, .unk, .unk, .unk] = .nx [s4, .int n, .int most, .int k, tb true n t, .unk, .unk, .unk, .unk, .unk] := by simp [sSeq, sForget, sIf, sSet, sRet, sPass, sCont, sBreak, sRetN, sDrop, sSetIx, sApp, sAsg, lf, eTest, eTru, toBl, eOp2, eV, eC, eSh, toShd, eFz, fFz, eIf, fIf, fTest, fOp2, eAnd, eOr, eNot, eAndV, eOrV, eNotV, eTup, eLst, eNil, eCons, fNil, fCons, fTup, fLst, eCB, fCB, eUn, pNeg, eSl, oNone, oSome, toIntO, pSub, pMul, pDiv, pMod, pPow, pLt, pLe, pGt, pGe, intOp, cT, cDiv, cMod, cPow, pAbs, pInt, pMax2, pMin2, plN, plIx, RPs, RPe, atP, getP, setP, setD, appD, okL, ixStep, eCall, eCallB, apN, fMv, fMvP, bName, bTup, bCons, bNil, wipeD, shd, frz, cIt, itE, eIsi, isiB, argsAt, restD, vsOk, Fl.val, nx, nxE, stp, isScal, updP, k3]
  obtain ⟨x, s5, e1, e2, e3, e4⟩ := call_pick (r := 0) (env := [s4, .int n, .int most, .int k, tb true n t, .unk, .unk, .unk, .unk, .unk]) (fa := fCons (lf (eV 1)) fNil) (m := (n : Int)) rfl d1 (by omega) (by omega) (by simp [sSeq, sForget, sIf, sSet, sRet, sPass, sCont, sBreak, sRetN, sDrop, sSetIx, sApp, sAsg, lf, eTest, eTru, toBl, eOp2, eV, eC, eSh, toShd, eFz, fFz, eIf, fIf, fTest, fOp2, eAnd, eOr, eNot, eAndV, eOrV, eNotV, eTup, eLst, eNil, eCons, fNil, fCons, fTup, fLst, eCB, fCB, eUn, pNeg, eSl, oNone, oSome, toIntO, pSub, pMul, pDiv, pMod, pPow, pLt, pLe, pGt, pGe, intOp, cT, cDiv, cMod, cPow, pAbs, pInt, pMax2, pMin2, plN, plIx, RPs, RPe, atP, getP, setP, setD, appD, okL, ixStep, eCall, eCallB, apN, fMv, fMvP, bName, bTup, bCons, bNil, wipeD, shd, frz, cIt, itE, eIsi, isiB, argsAt, restD, vsOk, Fl.val, nx, nxE, stp, isScal, updP])
  obtain ⟨x, rfl⟩ : ∃ x' : Nat, x = (x' : Int) := ⟨x.toNat, by omega⟩
  have hx : x < n := by omega
  have st6 : sSet 5 (fCallM 0 2 f_law_pick (fCons (lf (eV 1)) fNil)) [s4, .int n, .int most, .int k, tb true n t, .unk, .unk, .unk, .unk, .unk] = .nx [s5, .int n, .int most, .int k, tb true n t, .int x, .unk, .unk, .unk, .unk] := by
    unfold sSet; rw [e4]; rfl
  have st7 : sSet 6 (lf (eFz (eLc (cItA itR1 (eCons (eV 1) eNil)) (bName 7) (eTest (eOp2 pIsNot (eOp2 pIx (eOp2 pIx (eP 4) (eC (.int 0))) (eV 7)) (eC .non))) (eV 7) [7]))) [s5, .int n, .int most, .int k, tb true n t, .int x, .unk, .unk, .unk, .unk] = .nx [s5, .int n, .int most, .int k, tb true n t, .int x, colD n t, .unk, .unk, .unk] := by
    unfold sSet lf; rw [drawn_cols n6 n1 rfl rfl]; rfl
  have cl : 0 < (cols n t).length := by
    obtain ⟨e, h1, h2⟩ := d2
    exact List.length_pos_iff.mpr (List.ne_nil_of_mem (cols_mem.mpr ⟨h1, h2⟩))
  have cl6 := cols_len (n := n) (t := t)
  obtain ⟨y, s6, f1, f2, f3, f4⟩ := call_pick (r := 0) (env := [s5, .int n, .int most, .int k, tb true n t, .int x, colD n t, .unk, .unk, .unk]) (fa := fCons (lf (eCB pLen (eCons (eV 6) eNil))) fNil) (m := ((cols n t).length : Int)) rfl e1 (by omega) (by omega) (by simp [sSeq, sForget, sIf, sSet, sRet, sPass, sCont, sBreak, sRetN, sDrop, sSetIx, sApp, sAsg, lf, eTest, eTru, toBl, eOp2, eV, eC, eSh, toShd, eFz, fFz, eIf, fIf, fTest, fOp2, eAnd, eOr, eNot, eAndV, eOrV, eNotV, eTup, eLst, eNil, eCons, fNil, fCons, fTup, fLst, eCB, fCB, eUn, pNeg, eSl, oNone, oSome, toIntO, pSub, pMul, pDiv, pMod, pPow, pLt, pLe, pGt, pGe, intOp, cT, cDiv, cMod, cPow, pAbs, pInt, pMax2, pMin2, plN, plIx, RPs, RPe, atP, getP, setP, setD, appD, okL, ixStep, eCall, eCallB, apN, fMv, fMvP, bName, bTup, bCons, bNil, wipeD, shd, frz, cIt, itE, eIsi, isiB, argsAt, restD, vsOk, Fl.val, nx, nxE, stp, isScal, updP, colD, shd_cols])
  obtain ⟨ec, hec⟩ : ∃ e : Nat, atI ((cols n t).map fun e => D.int (e : Nat)) y = some (.int e) ∧ e ∈ cols n t := by
    obtain ⟨e, h1, h2⟩ := atI_some (l := cols n t) f2 f3
    exact ⟨e, by rw [atI_map, h1]; rfl, List.mem_of_getElem? h2⟩
  obtain ⟨hec1, hec2⟩ := hec
  obtain ⟨he, het⟩ := cols_mem.mp hec2
  have st8 : sSet 7 (fFz (fOp2 pIx (lf (eV 6)) (fCallM 0 2 f_law_pick (fCons (lf (eCB pLen (eCons (eV 6) eNil))) fNil)))) [s5, .int n, .int most, .int k, tb true n t, .int x, colD n t, .unk, .unk, .unk] = .nx [s6, .int n, .int most, .int k, tb true n t, .int x, colD n t, .int ec, .unk, .unk] := by
    have g1 : lf (eV 6) [s5, .int n, .int most, .int k, tb true n t, .int x, colD n t, .unk, .unk, .unk] = .ok (colD n t) [s5, .int n, .int most, .int k, tb true n t, .int x, colD n t, .unk, .unk, .unk] := by simp [sSeq, sForget, sIf, sSet, sRet, sPass, sCont, sBreak, sRetN, sDrop, sSetIx, sApp, sAsg, lf, eTest, eTru, toBl, eOp2, eV, eC, eSh, toShd, eFz, fFz, eIf, fIf, fTest, fOp2, eAnd, eOr, eNot, eAndV, eOrV, eNotV, eTup, eLst, eNil, eCons, fNil, fCons, fTup, fLst, eCB, fCB, eUn, pNeg, eSl, oNone, oSome, toIntO, pSub, pMul, pDiv, pMod, pPow, pLt, pLe, pGt, pGe, intOp, cT, cDiv, cMod, cPow, pAbs, pInt, pMax2, pMin2, plN, plIx, RPs, RPe, atP, getP, setP, setD, appD, okL, ixStep, eCall, eCallB, apN, fMv, fMvP, bName, bTup, bCons, bNil, wipeD, shd, frz, cIt, itE, eIsi, isiB, argsAt, restD, vsOk, Fl.val, nx, nxE, stp, isScal, updP, colD, shd_cols]
    have g2 : pIx (colD n t) (.int y) = .ok (.int ec) := by unfold colD; rw [pIx_lst, hec1]
    unfold sSet fFz fOp2
    rw [g1, RE.bind_ok, f4, RE.bind_ok, g2]
    rfl
  have front : ∀ r, ((sSeq (sIf (lf (eTest (eOp2 pEq (eV 3) (eC (.int 3)))))
    (sSetIx 4 (fOp2 pAdd (lf (eOp2 pAdd (eOp2 pIx (eOp2 pIx (eP 4) (eV 5)) (eV 7)) (eC (.int 1)))) (fCallM 0 2 f_law_pick (fCons (lf (eV 2)) fNil))) (plIx 4 (plN 4) (eV 5)) (lf (eV 7)))
    sPass)
    (sSeq (sIf (lf (eAnd (eTest (eOp2 pEq (eV 3) (eC (.int 4)))) (eTest (eOp2 pGt (eCB pLen (eCons (eV 6) eNil)) (eC (.int 1))))))
    (sSetIx 4 (lf (eC .non)) (plIx 4 (plN 4) (eV 5)) (lf (eV 7)))
    sPass)
    (sSeq (sForget (sIf (lf (eTest (eOp2 pEq (eV 3) (eC (.int 5)))))
    (sForget (sFor (cIt itL (eV 6)) (bName 8) b2_law_d_drawn_table) [8, 9])
    sPass) [8, 9])
    (sRet (fMv 4))))) [s6, .int n, .int most, .int k, tb true n t, .int x, colD n t, .int ec, .unk, .unk]).val = r → (f_law_d_drawn_table [s]).dr = r := fun r h => by
    refine fin _ ?_
    unfold m_law_d_drawn_table
    exact seqv st1 (seqv st2 (seqv st3 (seqv st4 (seqv st5 (seqv st6 (seqv st7 (seqv st8 h)))))))
  have pl : ∀ s' t', plIx 4 (plN 4) (eV 5) [s', .int n, .int most, .int k, tb true n t', .int x, colD n t, .int ec, .unk, .unk] = .ok [x] := fun s' t' => pl_tb rfl rfl hx
  have ixe : ∀ s' t', lf (eV 7) [s', .int n, .int most, .int k, tb true n t', .int x, colD n t, .int ec, .unk, .unk] = .ok (.int ec) [s', .int n, .int most, .int k, tb true n t', .int x, colD n t, .int ec, .unk, .unk] := fun s' t' => by simp [sSeq, sForget, sIf, sSet, sRet, sPass, sCont, sBreak, sRetN, sDrop, sSetIx, sApp, sAsg, lf, eTest, eTru, toBl, eOp2, eV, eC, eSh, toShd, eFz, fFz, eIf, fIf, fTest, fOp2, eAnd, eOr, eNot, eAndV, eOrV, eNotV, eTup, eLst, eNil, eCons, fNil, fCons, fTup, fLst, eCB, fCB, eUn, pNeg, eSl, oNone, oSome, toIntO, pSub, pMul, pDiv, pMod, pPow, pLt, pLe, pGt, pGe, intOp, cT, cDiv, cMod, cPow, pAbs, pInt, pMax2, pMin2, plN, plIx, RPs, RPe, atP, getP, setP, setD, appD, okL, ixStep, eCall, eCallB, apN, fMv, fMvP, bName, bTup, bCons, bNil, wipeD, shd, frz, cIt, itE, eIsi, isiB, argsAt, restD, vsOk, Fl.val, nx, nxE, stp, isScal, updP]
  have lc : (eCB pLen (eCons (eV 6) eNil)) [s6, .int n, .int most, .int k, tb true n t, .int x, colD n t, .int ec, .unk, .unk] = .ok (.int (cols n t).length) := by simp [sSeq, sForget, sIf, sSet, sRet, sPass, sCont, sBreak, sRetN, sDrop, sSetIx, sApp, sAsg, lf, eTest, eTru, toBl, eOp2, eV, eC, eSh, toShd, eFz, fFz, eIf, fIf, fTest, fOp2, eAnd, eOr, eNot, eAndV, eOrV, eNotV, eTup, eLst, eNil, eCons, fNil, fCons, fTup, fLst, eCB, fCB, eUn, pNeg, eSl, oNone, oSome, toIntO, pSub, pMul, pDiv, pMod, pPow, pLt, pLe, pGt, pGe, intOp, cT, cDiv, cMod, cPow, pAbs, pInt, pMax2, pMin2, plN, plIx, RPs, RPe, atP, getP, setP, setD, appD, okL, ixStep, eCall, eCallB, apN, fMv, fMvP, bName, bTup, bCons, bNil, wipeD, shd, frz, cIt, itE, eIsi, isiB, argsAt, restD, vsOk, Fl.val, nx, nxE, stp, isScal, updP, colD, shd_cols]
  rcases (show k = 3 ∨ k = 4 ∨ k = 5 by omega) with rfl | rfl | rfl
  · -- a number changed
    obtain ⟨v, hv⟩ := some_ne (x := x) d3 het
    obtain ⟨z, s7, g1, g2, g3, g4⟩ := call_pick (r := 0) (env := [s6, .int n, .int most, .int 3, tb true n t, .int x, colD n t, .int ec, .unk, .unk]) (fa := fCons (lf (eV 2)) fNil) (m := (most : Int)) rfl f1 (by omega) (by omega) (by simp [sSeq, sForget, sIf, sSet, sRet, sPass, sCont, sBreak, sRetN, sDrop, sSetIx, sApp, sAsg, lf, eTest, eTru, toBl, eOp2, eV, eC, eSh, toShd, eFz, fFz, eIf, fIf, fTest, fOp2, eAnd, eOr, eNot, eAndV, eOrV, eNotV, eTup, eLst, eNil, eCons, fNil, fCons, fTup, fLst, eCB, fCB, eUn, pNeg, eSl, oNone, oSome, toIntO, pSub, pMul, pDiv, pMod, pPow, pLt, pLe, pGt, pGe, intOp, cT, cDiv, cMod, cPow, pAbs, pInt, pMax2, pMin2, plN, plIx, RPs, RPe, atP, getP, setP, setD, appD, okL, ixStep, eCall, eCallB, apN, fMv, fMvP, bName, bTup, bCons, bNil, wipeD, shd, frz, cIt, itE, eIsi, isiB, argsAt, restD, vsOk, Fl.val, nx, nxE, stp, isScal, updP])
    refine ⟨n, up t x ec (some (v + 1 + z)), n1, n6, ⟨ec, he, ?_⟩, front _ ?_⟩
    · unfold up; split
      · simp [sSeq, sForget, sIf, sSet, sRet, sPass, sCont, sBreak, sRetN, sDrop, sSetIx, sApp, sAsg, lf, eTest, eTru, toBl, eOp2, eV, eC, eSh, toShd, eFz, fFz, eIf, fIf, fTest, fOp2, eAnd, eOr, eNot, eAndV, eOrV, eNotV, eTup, eLst, eNil, eCons, fNil, fCons, fTup, fLst, eCB, fCB, eUn, pNeg, eSl, oNone, oSome, toIntO, pSub, pMul, pDiv, pMod, pPow, pLt, pLe, pGt, pGe, intOp, cT, cDiv, cMod, cPow, pAbs, pInt, pMax2, pMin2, plN, plIx, RPs, RPe, atP, getP, setP, setD, appD, okL, ixStep, eCall, eCallB, apN, fMv, fMvP, bName, bTup, bCons, bNil, wipeD, shd, frz, cIt, itE, eIsi, isiB, argsAt, restD, vsOk, Fl.val, nx, nxE, stp, isScal, updP]
      · exact het
    · have r1 : lf (eOp2 pAdd (eOp2 pIx (eOp2 pIx (eP 4) (eV 5)) (eV 7)) (eC (.int 1))) [s6, .int n, .int most, .int 3, tb true n t, .int x, colD n t, .int ec, .unk, .unk] = .ok (.int (v + 1)) [s6, .int n, .int most, .int 3, tb true n t, .int x, colD n t, .int ec, .unk, .unk] := by
        have q1 := ix_tb (o := true) (t := t) hx
        have q2 := ix_row (o := true) (f := t x) he
        rw [hv] at q2
        have u : eP 4 [s6, .int n, .int most, .int 3, tb true n t, .int x, colD n t, .int ec, .unk, .unk] = .ok (tb true n t) := rfl
        have w5 : eV 5 [s6, .int n, .int most, .int 3, tb true n t, .int x, colD n t, .int ec, .unk, .unk] = .ok (.int x) := rfl
        have w7 : eV 7 [s6, .int n, .int most, .int 3, tb true n t, .int x, colD n t, .int ec, .unk, .unk] = .ok (.int ec) := rfl
        unfold lf eOp2
        rw [u, w5, w7, R.ok_bind, R.ok_bind, q1, R.ok_bind, R.ok_bind, q2]
        rfl
      have u1 := upd_tb (env := [s7, .int n, .int most, .int 3, tb true n t, .int x, colD n t, .int ec, .unk, .unk]) (r := 4) (x := x) (e := ec) (v := .int (v + 1 + z)) (o := some (v + 1 + z)) rfl hx he rfl
      have st9 : sIf (lf (eTest (eOp2 pEq (eV 3) (eC (.int 3)))))
        (sSetIx 4 (fOp2 pAdd (lf (eOp2 pAdd (eOp2 pIx (eOp2 pIx (eP 4) (eV 5)) (eV 7)) (eC (.int 1)))) (fCallM 0 2 f_law_pick (fCons (lf (eV 2)) fNil))) (plIx 4 (plN 4) (eV 5)) (lf (eV 7)))
        sPass [s6, .int n, .int most, .int 3, tb true n t, .int x, colD n t, .int ec, .unk, .unk] = .nx [s7, .int n, .int most, .int 3, tb true n (up t x ec (some (v + 1 + z))), .int x, colD n t, .int ec, .unk, .unk] := by
        have c0 : lf (eTest (eOp2 pEq (eV 3) (eC (.int 3)))) [s6, .int n, .int most, .int 3, tb true n t, .int x, colD n t, .int ec, .unk, .unk] = .ok true [s6, .int n, .int most, .int 3, tb true n t, .int x, colD n t, .int ec, .unk, .unk] := by simp [sSeq, sForget, sIf, sSet, sRet, sPass, sCont, sBreak, sRetN, sDrop, sSetIx, sApp, sAsg, lf, eTest, eTru, toBl, eOp2, eV, eC, eSh, toShd, eFz, fFz, eIf, fIf, fTest, fOp2, eAnd, eOr, eNot, eAndV, eOrV, eNotV, eTup, eLst, eNil, eCons, fNil, fCons, fTup, fLst, eCB, fCB, eUn, pNeg, eSl, oNone, oSome, toIntO, pSub, pMul, pDiv, pMod, pPow, pLt, pLe, pGt, pGe, intOp, cT, cDiv, cMod, cPow, pAbs, pInt, pMax2, pMin2, plN, plIx, RPs, RPe, atP, getP, setP, setD, appD, okL, ixStep, eCall, eCallB, apN, fMv, fMvP, bName, bTup, bCons, bNil, wipeD, shd, frz, cIt, itE, eIsi, isiB, argsAt, restD, vsOk, Fl.val, nx, nxE, stp, isScal, updP]
        unfold sIf
        rw [c0, REb_ok, if_pos rfl]
        unfold sSetIx fOp2
        rw [r1, RE.bind_ok, g4, RE.bind_ok, add_int, R.ef_ok, REs_ok]
        simp only [List.set_cons_zero]
        rw [pl, RPs_ok, ixe, REs_ok, u1]
        rfl
      refine seqv st9 (seqv (e := [s7, .int n, .int most, .int 3, tb true n (up t x ec (some (v + 1 + z))), .int x, colD n t, .int ec, .unk, .unk]) (by simp [sSeq, sForget, sIf, sSet, sRet, sPass, sCont, sBreak, sRetN, sDrop, sSetIx, sApp, sAsg, lf, eTest, eTru, toBl, eOp2, eV, eC, eSh, toShd, eFz, fFz, eIf, fIf, fTest, fOp2, eAnd, eOr, eNot, eAndV, eOrV, eNotV, eTup, eLst, eNil, eCons, fNil, fCons, fTup, fLst, eCB, fCB, eUn, pNeg, eSl, oNone, oSome, toIntO, pSub, pMul, pDiv, pMod, pPow, pLt, pLe, pGt, pGe, intOp, cT, cDiv, cMod, cPow, pAbs, pInt, pMax2, pMin2, plN, plIx, RPs, RPe, atP, getP, setP, setD, appD, okL, ixStep, eCall, eCallB, apN, fMv, fMvP, bName, bTup, bCons, bNil, wipeD, shd, frz, cIt, itE, eIsi, isiB, argsAt, restD, vsOk, Fl.val, nx, nxE, stp, isScal, updP]) (seqv (e := [s7, .int n, .int most, .int 3, tb true n (up t x ec (some (v + 1 + z))), .int x, colD n t, .int ec, .unk, .unk]) (by simp [sSeq, sForget, sIf, sSet, sRet, sPass, sCont, sBreak, sRetN, sDrop, sSetIx, sApp, sAsg, lf, eTest, eTru, toBl, eOp2, eV, eC, eSh, toShd, eFz, fFz, eIf, fIf, fTest, fOp2, eAnd, eOr, eNot, eAndV, eOrV, eNotV, eTup, eLst, eNil, eCons, fNil, fCons, fTup, fLst, eCB, fCB, eUn, pNeg, eSl, oNone, oSome, toIntO, pSub, pMul, pDiv, pMod, pPow, pLt, pLe, pGt, pGe, intOp, cT, cDiv, cMod, cPow, pAbs, pInt, pMax2, pMin2, plN, plIx, RPs, RPe, atP, getP, setP, setD, appD, okL, ixStep, eCall, eCallB, apN, fMv, fMvP, bName, bTup, bCons, bNil, wipeD, shd, frz, cIt, itE, eIsi, isiB, argsAt, restD, vsOk, Fl.val, nx, nxE, stp, isScal, updP]) drawn_end))
  · -- a number struck out
    have c9 : sIf (lf (eTest (eOp2 pEq (eV 3) (eC (.int 3)))))
        (sSetIx 4 (fOp2 pAdd (lf (eOp2 pAdd (eOp2 pIx (eOp2 pIx (eP 4) (eV 5)) (eV 7)) (eC (.int 1)))) (fCallM 0 2 f_law_pick (fCons (lf (eV 2)) fNil))) (plIx 4 (plN 4) (eV 5)) (lf (eV 7)))
        sPass [s6, .int n, .int most, .int 4, tb true n t, .int x, colD n t, .int ec, .unk, .unk] = .nx [s6, .int n, .int most, .int 4, tb true n t, .int x, colD n t, .int ec, .unk, .unk] := by simp [sSeq, sForget, sIf, sSet, sRet, sPass, sCont, sBreak, sRetN, sDrop, sSetIx, sApp, sAsg, lf, eTest, eTru, toBl, eOp2, eV, eC, eSh, toShd, eFz, fFz, eIf, fIf, fTest, fOp2, eAnd, eOr, eNot, eAndV, eOrV, eNotV, eTup, eLst, eNil, eCons, fNil, fCons, fTup, fLst, eCB, fCB, eUn, pNeg, eSl, oNone, oSome, toIntO, pSub, pMul, pDiv, pMod, pPow, pLt, pLe, pGt, pGe, intOp, cT, cDiv, cMod, cPow, pAbs, pInt, pMax2, pMin2, plN, plIx, RPs, RPe, atP, getP, setP, setD, appD, okL, ixStep, eCall, eCallB, apN, fMv, fMvP, bName, bTup, bCons, bNil, wipeD, shd, frz, cIt, itE, eIsi, isiB, argsAt, restD, vsOk, Fl.val, nx, nxE, stp, isScal, updP]
    have c0 : lf (eAnd (eTest (eOp2 pEq (eV 3) (eC (.int 4)))) (eTest (eOp2 pGt (eCB pLen (eCons (eV 6) eNil)) (eC (.int 1))))) [s6, .int n, .int most, .int 4, tb true n t, .int x, colD n t, .int ec, .unk, .unk] = .ok (decide (1 < ((cols n t).length : Int))) [s6, .int n, .int most, .int 4, tb true n t, .int x, colD n t, .int ec, .unk, .unk] := by
      unfold lf eAnd eTest eOp2
      rw [lc]
      simp [sSeq, sForget, sIf, sSet, sRet, sPass, sCont, sBreak, sRetN, sDrop, sSetIx, sApp, sAsg, lf, eTest, eTru, toBl, eOp2, eV, eC, eSh, toShd, eFz, fFz, eIf, fIf, fTest, fOp2, eAnd, eOr, eNot, eAndV, eOrV, eNotV, eTup, eLst, eNil, eCons, fNil, fCons, fTup, fLst, eCB, fCB, eUn, pNeg, eSl, oNone, oSome, toIntO, pSub, pMul, pDiv, pMod, pPow, pLt, pLe, pGt, pGe, intOp, cT, cDiv, cMod, cPow, pAbs, pInt, pMax2, pMin2, plN, plIx, RPs, RPe, atP, getP, setP, setD, appD, okL, ixStep, eCall, eCallB, apN, fMv, fMvP, bName, bTup, bCons, bNil, wipeD, shd, frz, cIt, itE, eIsi, isiB, argsAt, restD, vsOk, Fl.val, nx, nxE, stp, isScal, updP]
    by_cases c : 1 < ((cols n t).length : Int)
    · refine ⟨n, up t x ec none, n1, n6, ?_, front _ ?_⟩
      · have nd : (cols n t).Nodup := List.nodup_range.filter _
        obtain ⟨e', h1, h2⟩ : ∃ e' ∈ cols n t, e' ≠ ec := by
          match q : cols n t, nd, c with
          | [], _, c => simp [sSeq, sForget, sIf, sSet, sRet, sPass, sCont, sBreak, sRetN, sDrop, sSetIx, sApp, sAsg, lf, eTest, eTru, toBl, eOp2, eV, eC, eSh, toShd, eFz, fFz, eIf, fIf, fTest, fOp2, eAnd, eOr, eNot, eAndV, eOrV, eNotV, eTup, eLst, eNil, eCons, fNil, fCons, fTup, fLst, eCB, fCB, eUn, pNeg, eSl, oNone, oSome, toIntO, pSub, pMul, pDiv, pMod, pPow, pLt, pLe, pGt, pGe, intOp, cT, cDiv, cMod, cPow, pAbs, pInt, pMax2, pMin2, plN, plIx, RPs, RPe, atP, getP, setP, setD, appD, okL, ixStep, eCall, eCallB, apN, fMv, fMvP, bName, bTup, bCons, bNil, wipeD, shd, frz, cIt, itE, eIsi, isiB, argsAt, restD, vsOk, Fl.val, nx, nxE, stp, isScal, updP] at c
          | [_], _, c => simp [sSeq, sForget, sIf, sSet, sRet, sPass, sCont, sBreak, sRetN, sDrop, sSetIx, sApp, sAsg, lf, eTest, eTru, toBl, eOp2, eV, eC, eSh, toShd, eFz, fFz, eIf, fIf, fTest, fOp2, eAnd, eOr, eNot, eAndV, eOrV, eNotV, eTup, eLst, eNil, eCons, fNil, fCons, fTup, fLst, eCB, fCB, eUn, pNeg, eSl, oNone, oSome, toIntO, pSub, pMul, pDiv, pMod, pPow, pLt, pLe, pGt, pGe, intOp, cT, cDiv, cMod, cPow, pAbs, pInt, pMax2, pMin2, plN, plIx, RPs, RPe, atP, getP, setP, setD, appD, okL, ixStep, eCall, eCallB, apN, fMv, fMvP, bName, bTup, bCons, bNil, wipeD, shd, frz, cIt, itE, eIsi, isiB, argsAt, restD, vsOk, Fl.val, nx, nxE, stp, isScal, updP] at c
          | a :: b :: r, nd, _ =>
            by_cases z : a = ec
            · refine ⟨b, by simp [sSeq, sForget, sIf, sSet, sRet, sPass, sCont, sBreak, sRetN, sDrop, sSetIx, sApp, sAsg, lf, eTest, eTru, toBl, eOp2, eV, eC, eSh, toShd, eFz, fFz, eIf, fIf, fTest, fOp2, eAnd, eOr, eNot, eAndV, eOrV, eNotV, eTup, eLst, eNil, eCons, fNil, fCons, fTup, fLst, eCB, fCB, eUn, pNeg, eSl, oNone, oSome, toIntO, pSub, pMul, pDiv, pMod, pPow, pLt, pLe, pGt, pGe, intOp, cT, cDiv, cMod, cPow, pAbs, pInt, pMax2, pMin2, plN, plIx, RPs, RPe, atP, getP, setP, setD, appD, okL, ixStep, eCall, eCallB, apN, fMv, fMvP, bName, bTup, bCons, bNil, wipeD, shd, frz, cIt, itE, eIsi, isiB, argsAt, restD, vsOk, Fl.val, nx, nxE, stp, isScal, updP], fun w => ?_⟩
              simp [sSeq, sForget, sIf, sSet, sRet, sPass, sCont, sBreak, sRetN, sDrop, sSetIx, sApp, sAsg, lf, eTest, eTru, toBl, eOp2, eV, eC, eSh, toShd, eFz, fFz, eIf, fIf, fTest, fOp2, eAnd, eOr, eNot, eAndV, eOrV, eNotV, eTup, eLst, eNil, eCons, fNil, fCons, fTup, fLst, eCB, fCB, eUn, pNeg, eSl, oNone, oSome, toIntO, pSub, pMul, pDiv, pMod, pPow, pLt, pLe, pGt, pGe, intOp, cT, cDiv, cMod, cPow, pAbs, pInt, pMax2, pMin2, plN, plIx, RPs, RPe, atP, getP, setP, setD, appD, okL, ixStep, eCall, eCallB, apN, fMv, fMvP, bName, bTup, bCons, bNil, wipeD, shd, frz, cIt, itE, eIsi, isiB, argsAt, restD, vsOk, Fl.val, nx, nxE, stp, isScal, updP, z, w] at nd
            · exact ⟨a, by simp [sSeq, sForget, sIf, sSet, sRet, sPass, sCont, sBreak, sRetN, sDrop, sSetIx, sApp, sAsg, lf, eTest, eTru, toBl, eOp2, eV, eC, eSh, toShd, eFz, fFz, eIf, fIf, fTest, fOp2, eAnd, eOr, eNot, eAndV, eOrV, eNotV, eTup, eLst, eNil, eCons, fNil, fCons, fTup, fLst, eCB, fCB, eUn, pNeg, eSl, oNone, oSome, toIntO, pSub, pMul, pDiv, pMod, pPow, pLt, pLe, pGt, pGe, intOp, cT, cDiv, cMod, cPow, pAbs, pInt, pMax2, pMin2, plN, plIx, RPs, RPe, atP, getP, setP, setD, appD, okL, ixStep, eCall, eCallB, apN, fMv, fMvP, bName, bTup, bCons, bNil, wipeD, shd, frz, cIt, itE, eIsi, isiB, argsAt, restD, vsOk, Fl.val, nx, nxE, stp, isScal, updP], z⟩
        obtain ⟨h3, h4⟩ := cols_mem.mp h1
        refine ⟨e', h3, ?_⟩
        unfold up; rw [if_neg (fun z => h2 z.2)]; exact h4
      · have u1 := upd_tb (env := [s6, .int n, .int most, .int 4, tb true n t, .int x, colD n t, .int ec, .unk, .unk]) (r := 4) (x := x) (e := ec) (v := .non) (o := none) rfl hx he rfl
        have st10 : sIf (lf (eAnd (eTest (eOp2 pEq (eV 3) (eC (.int 4)))) (eTest (eOp2 pGt (eCB pLen (eCons (eV 6) eNil)) (eC (.int 1))))))
          (sSetIx 4 (lf (eC .non)) (plIx 4 (plN 4) (eV 5)) (lf (eV 7)))
          sPass [s6, .int n, .int most, .int 4, tb true n t, .int x, colD n t, .int ec, .unk, .unk] = .nx [s6, .int n, .int most, .int 4, tb true n (up t x ec none), .int x, colD n t, .int ec, .unk, .unk] := by
          unfold sIf
          rw [c0, REb_ok, if_pos (decide_eq_true c)]
          unfold sSetIx
          have : lf (eC .non) [s6, .int n, .int most, .int 4, tb true n t, .int x, colD n t, .int ec, .unk, .unk] = .ok .non [s6, .int n, .int most, .int 4, tb true n t, .int x, colD n t, .int ec, .unk, .unk] := rfl
          rw [this, REs_ok, pl, RPs_ok, ixe, REs_ok, u1]
          rfl
        exact seqv c9 (seqv st10 (seqv (e := [s6, .int n, .int most, .int 4, tb true n (up t x ec none), .int x, colD n t, .int ec, .unk, .unk]) (by simp [sSeq, sForget, sIf, sSet, sRet, sPass, sCont, sBreak, sRetN, sDrop, sSetIx, sApp, sAsg, lf, eTest, eTru, toBl, eOp2, eV, eC, eSh, toShd, eFz, fFz, eIf, fIf, fTest, fOp2, eAnd, eOr, eNot, eAndV, eOrV, eNotV, eTup, eLst, eNil, eCons, fNil, fCons, fTup, fLst, eCB, fCB, eUn, pNeg, eSl, oNone, oSome, toIntO, pSub, pMul, pDiv, pMod, pPow, pLt, pLe, pGt, pGe, intOp, cT, cDiv, cMod, cPow, pAbs, pInt, pMax2, pMin2, plN, plIx, RPs, RPe, atP, getP, setP, setD, appD, okL, ixStep, eCall, eCallB, apN, fMv, fMvP, bName, bTup, bCons, bNil, wipeD, shd, frz, cIt, itE, eIsi, isiB, argsAt, restD, vsOk, Fl.val, nx, nxE, stp, isScal, updP]) drawn_end))
    · refine ⟨n, t, n1, n6, d2, front _ ?_⟩
      have st10 : sIf (lf (eAnd (eTest (eOp2 pEq (eV 3) (eC (.int 4)))) (eTest (eOp2 pGt (eCB pLen (eCons (eV 6) eNil)) (eC (.int 1))))))
          (sSetIx 4 (lf (eC .non)) (plIx 4 (plN 4) (eV 5)) (lf (eV 7)))
          sPass [s6, .int n, .int most, .int 4, tb true n t, .int x, colD n t, .int ec, .unk, .unk] = .nx [s6, .int n, .int most, .int 4, tb true n t, .int x, colD n t, .int ec, .unk, .unk] := by
        unfold sIf
        rw [c0, REb_ok, if_neg (by simpa using c)]
        rfl
      exact seqv c9 (seqv st10 (seqv (e := [s6, .int n, .int most, .int 4, tb true n t, .int x, colD n t, .int ec, .unk, .unk]) (by simp [sSeq, sForget, sIf, sSet, sRet, sPass, sCont, sBreak, sRetN, sDrop, sSetIx, sApp, sAsg, lf, eTest, eTru, toBl, eOp2, eV, eC, eSh, toShd, eFz, fFz, eIf, fIf, fTest, fOp2, eAnd, eOr, eNot, eAndV, eOrV, eNotV, eTup, eLst, eNil, eCons, fNil, fCons, fTup, fLst, eCB, fCB, eUn, pNeg, eSl, oNone, oSome, toIntO, pSub, pMul, pDiv, pMod, pPow, pLt, pLe, pGt, pGe, intOp, cT, cDiv, cMod, cPow, pAbs, pInt, pMax2, pMin2, plN, plIx, RPs, RPe, atP, getP, setP, setD, appD, okL, ixStep, eCall, eCallB, apN, fMv, fMvP, bName, bTup, bCons, bNil, wipeD, shd, frz, cIt, itE, eIsi, isiB, argsAt, restD, vsOk, Fl.val, nx, nxE, stp, isScal, updP]) drawn_end))
  · -- all numbers drawn
    obtain ⟨s7, t7, g1, g2, g3⟩ := rep_fill (n := n) (x := x) (s := s6) (m := .int most) (k := .int 5) (c := colD n t) (tc := .int ec) (t := t) f1 rfl n6 m2 rfl
    refine ⟨n, t7, n1, n6, let ⟨e, h1, h2⟩ := d2; ⟨e, h1, g2 e h2⟩, front _ ?_⟩
    have st11 : sForget (sIf (lf (eTest (eOp2 pEq (eV 3) (eC (.int 5)))))
      (sForget (sFor (cIt itL (eV 6)) (bName 8) b2_law_d_drawn_table) [8, 9])
      sPass) [8, 9] [s6, .int n, .int most, .int 5, tb true n t, .int x, colD n t, .int ec, .unk, .unk] = .nx [s7, .int n, .int most, .int 5, tb true n t7, .int x, colD n t, .int ec, .unk, .unk] := by
      refine forget_nx (e := [s7, .int n, .int most, .int 5, tb true n t7, .int x, colD n t, .int ec, .unk, .unk]) ?_
      have c0 : lf (eTest (eOp2 pEq (eV 3) (eC (.int 5)))) [s6, .int n, .int most, .int 5, tb true n t, .int x, colD n t, .int ec, .unk, .unk] = .ok true [s6, .int n, .int most, .int 5, tb true n t, .int x, colD n t, .int ec, .unk, .unk] := by simp [sSeq, sForget, sIf, sSet, sRet, sPass, sCont, sBreak, sRetN, sDrop, sSetIx, sApp, sAsg, lf, eTest, eTru, toBl, eOp2, eV, eC, eSh, toShd, eFz, fFz, eIf, fIf, fTest, fOp2, eAnd, eOr, eNot, eAndV, eOrV, eNotV, eTup, eLst, eNil, eCons, fNil, fCons, fTup, fLst, eCB, fCB, eUn, pNeg, eSl, oNone, oSome, toIntO, pSub, pMul, pDiv, pMod, pPow, pLt, pLe, pGt, pGe, intOp, cT, cDiv, cMod, cPow, pAbs, pInt, pMax2, pMin2, plN, plIx, RPs, RPe, atP, getP, setP, setD, appD, okL, ixStep, eCall, eCallB, apN, fMv, fMvP, bName, bTup, bCons, bNil, wipeD, shd, frz, cIt, itE, eIsi, isiB, argsAt, restD, vsOk, Fl.val, nx, nxE, stp, isScal, updP]
      unfold sIf
      rw [c0, REb_ok, if_pos rfl]
      exact forget_nx g3
    exact seqv (e := [s6, .int n, .int most, .int 5, tb true n t, .int x, colD n t, .int ec, .unk, .unk]) (by simp [sSeq, sForget, sIf, sSet, sRet, sPass, sCont, sBreak, sRetN, sDrop, sSetIx, sApp, sAsg, lf, eTest, eTru, toBl, eOp2, eV, eC, eSh, toShd, eFz, fFz, eIf, fIf, fTest, fOp2, eAnd, eOr, eNot, eAndV, eOrV, eNotV, eTup, eLst, eNil, eCons, fNil, fCons, fTup, fLst, eCB, fCB, eUn, pNeg, eSl, oNone, oSome, toIntO, pSub, pMul, pDiv, pMod, pPow, pLt, pLe, pGt, pGe, intOp, cT, cDiv, cMod, cPow, pAbs, pInt, pMax2, pMin2, plN, plIx, RPs, RPe, atP, getP, setP, setD, appD, okL, ixStep, eCall, eCallB, apN, fMv, fMvP, bName, bTup, bCons, bNil, wipeD, shd, frz, cIt, itE, eIsi, isiB, argsAt, restD, vsOk, Fl.val, nx, nxE, stp, isScal, updP]) (seqv (e := [s6, .int n, .int most, .int 5, tb true n t, .int x, colD n t, .int ec, .unk, .unk]) (by simp [sSeq, sForget, sIf, sSet, sRet, sPass, sCont, sBreak, sRetN, sDrop, sSetIx, sApp, sAsg, lf, eTest, eTru, toBl, eOp2, eV, eC, eSh, toShd, eFz, fFz, eIf, fIf, fTest, fOp2, eAnd, eOr, eNot, eAndV, eOrV, eNotV, eTup, eLst, eNil, eCons, fNil, fCons, fTup, fLst, eCB, fCB, eUn, pNeg, eSl, oNone, oSome, toIntO, pSub, pMul, pDiv, pMod, pPow, pLt, pLe, pGt, pGe, intOp, cT, cDiv, cMod, cPow, pAbs, pInt, pMax2, pMin2, plN, plIx, RPs, RPe, atP, getP, setP, setD, appD, okL, ixStep, eCall, eCallB, apN, fMv, fMvP, bName, bTup, bCons, bNil, wipeD, shd, frz, cIt, itE, eIsi, isiB, argsAt, restD, vsOk, Fl.val, nx, nxE, stp, isScal, updP]) (seqv st11 drawn_end))
end K14


set_option Elab.async false
set_option linter.all false
set_option maxRecDepth 100000
set_option maxHeartbeats 4000000
namespace K14
open DP L2 Evl
abbrev T2 := Nat → Nat → Option Int
@[simp] theorem known_tb {o : Bool} {n : Nat} {t : T2} : known (some (tb o n t)) = .ok (tb o n t) := rfl
@[simp] theorem known_row {o : Bool} {n : Nat} {f : Nat → Option Int} : known (some (rowD o n f)) = .ok (rowD o n f) := rfl
@[simp] theorem known_oD (o : Option Int) : known (some (oD o)) = .ok (oD o) := by cases o <;> rfl
@[simp] theorem known_colD {n : Nat} {t : T2} : known (some (colD n t)) = .ok (colD n t) := rfl
@[simp] theorem len_tb {o : Bool} {n : Nat} {t : T2} : pLen [tb o n t] = .ok (.int n) := by simp [sSeq, sForget, sIf, sSet, sRet, sPass, sCont, sBreak, sRetN, sDrop, sSetIx, sApp, sAsg, lf, eTest, eTru, toBl, eOp2, eV, eC, eSh, toShd, eFz, fFz, eIf, fIf, fTest, fOp2, eAnd, eOr, eNot, eAndV, eOrV, eNotV, eTup, eLst, eNil, eCons, fNil, fCons, fTup, fLst, eCB, fCB, eUn, pNeg, eSl, oNone, oSome, toIntO, pSub, pMul, pDiv, pMod, pPow, pLt, pLe, pGt, pGe, intOp, cT, cDiv, cMod, cPow, pAbs, pInt, pMax2, pMin2, plN, plIx, RPs, RPe, atP, getP, setP, setD, appD, okL, ixStep, eCall, eCallB, apN, fMv, fMvP, bName, bTup, bCons, bNil, wipeD, shd, frz, cIt, itE, eIsi, isiB, argsAt, restD, vsOk, Fl.val, nx, nxE, stp, isScal, updP, tb]
@[simp] theorem len_col {n : Nat} {t : T2} : pLen [colD n t] = .ok (.int (cols n t).length) := by simp [sSeq, sForget, sIf, sSet, sRet, sPass, sCont, sBreak, sRetN, sDrop, sSetIx, sApp, sAsg, lf, eTest, eTru, toBl, eOp2, eV, eC, eSh, toShd, eFz, fFz, eIf, fIf, fTest, fOp2, eAnd, eOr, eNot, eAndV, eOrV, eNotV, eTup, eLst, eNil, eCons, fNil, fCons, fTup, fLst, eCB, fCB, eUn, pNeg, eSl, oNone, oSome, toIntO, pSub, pMul, pDiv, pMod, pPow, pLt, pLe, pGt, pGe, intOp, cT, cDiv, cMod, cPow, pAbs, pInt, pMax2, pMin2, plN, plIx, RPs, RPe, atP, getP, setP, setD, appD, okL, ixStep, eCall, eCallB, apN, fMv, fMvP, bName, bTup, bCons, bNil, wipeD, shd, frz, cIt, itE, eIsi, isiB, argsAt, restD, vsOk, Fl.val, nx, nxE, stp, isScal, updP, colD]
theorem itL_tb {o : Bool} {n : Nat} {t : T2} : itL (tb false n t) = .ok ((List.range n).map fun s => rowD false n (t s)) := by
  unfold tb; rw [itL_lst, if_pos (by rw [shds_all]; simp [sSeq, sForget, sIf, sSet, sRet, sPass, sCont, sBreak, sRetN, sDrop, sSetIx, sApp, sAsg, lf, eTest, eTru, toBl, eOp2, eV, eC, eSh, toShd, eFz, fFz, eIf, fIf, fTest, fOp2, eAnd, eOr, eNot, eAndV, eOrV, eNotV, eTup, eLst, eNil, eCons, fNil, fCons, fTup, fLst, eCB, fCB, eUn, pNeg, eSl, oNone, oSome, toIntO, pSub, pMul, pDiv, pMod, pPow, pLt, pLe, pGt, pGe, intOp, cT, cDiv, cMod, cPow, pAbs, pInt, pMax2, pMin2, plN, plIx, RPs, RPe, atP, getP, setP, setD, appD, okL, ixStep, eCall, eCallB, apN, fMv, fMvP, bName, bTup, bCons, bNil, wipeD, shd, frz, cIt, itE, eIsi, isiB, argsAt, restD, vsOk, Fl.val, nx, nxE, stp, isScal, updP, List.all_map, Function.comp_def])]
theorem enum_range {α : Type} {n : Nat} {f : Nat → D} : enumD ((List.range n).map f) = (List.range n).map fun i => .tup [.int (i : Nat), f i] := by
  unfold enumD
  refine List.ext_getElem? fun i => ?_
  rw [List.getElem?_mapIdx]
  by_cases h : i < n <;> simp [sSeq, sForget, sIf, sSet, sRet, sPass, sCont, sBreak, sRetN, sDrop, sSetIx, sApp, sAsg, lf, eTest, eTru, toBl, eOp2, eV, eC, eSh, toShd, eFz, fFz, eIf, fIf, fTest, fOp2, eAnd, eOr, eNot, eAndV, eOrV, eNotV, eTup, eLst, eNil, eCons, fNil, fCons, fTup, fLst, eCB, fCB, eUn, pNeg, eSl, oNone, oSome, toIntO, pSub, pMul, pDiv, pMod, pPow, pLt, pLe, pGt, pGe, intOp, cT, cDiv, cMod, cPow, pAbs, pInt, pMax2, pMin2, plN, plIx, RPs, RPe, atP, getP, setP, setD, appD, okL, ixStep, eCall, eCallB, apN, fMv, fMvP, bName, bTup, bCons, bNil, wipeD, shd, frz, cIt, itE, eIsi, isiB, argsAt, restD, vsOk, Fl.val, nx, nxE, stp, isScal, updP, h]
theorem enum_tb {n : Nat} {t : T2} : itE [tb false n t] = .ok ((List.range n).map fun s => .tup [.int (s : Nat), rowD false n (t s)]) := by
  show (itL (tb false n t) >>= fun l => DP.R.ok (enumD l)) = _
  rw [itL_tb (o := false), R.ok_bind, enum_range (α := Nat)]
theorem enum_row {n : Nat} {f : Nat → Option Int} : itE [rowD false n f] = .ok ((List.range n).map fun e => .tup [.int (e : Nat), oD (f e)]) := by
  show (itL (rowD false n f) >>= fun l => DP.R.ok (enumD l)) = _
  unfold rowD
  rw [itL_lst, if_pos (by simp [sSeq, sForget, sIf, sSet, sRet, sPass, sCont, sBreak, sRetN, sDrop, sSetIx, sApp, sAsg, lf, eTest, eTru, toBl, eOp2, eV, eC, eSh, toShd, eFz, fFz, eIf, fIf, fTest, fOp2, eAnd, eOr, eNot, eAndV, eOrV, eNotV, eTup, eLst, eNil, eCons, fNil, fCons, fTup, fLst, eCB, fCB, eUn, pNeg, eSl, oNone, oSome, toIntO, pSub, pMul, pDiv, pMod, pPow, pLt, pLe, pGt, pGe, intOp, cT, cDiv, cMod, cPow, pAbs, pInt, pMax2, pMin2, plN, plIx, RPs, RPe, atP, getP, setP, setD, appD, okL, ixStep, eCall, eCallB, apN, fMv, fMvP, bName, bTup, bCons, bNil, wipeD, shd, frz, cIt, itE, eIsi, isiB, argsAt, restD, vsOk, Fl.val, nx, nxE, stp, isScal, updP]), R.ok_bind, enum_range (α := Nat)]
@[simp] theorem isN_oD (o : Option Int) : pIs (oD o) .non = .ok (.bl o.isNone) := by cases o <;> rfl
@[simp] theorem isNN_oD (o : Option Int) : pIsNot (oD o) .non = .ok (.bl o.isSome) := by cases o <;> rfl
theorem findSome_map {α β γ : Type} (f : β → γ) (g : α → Option β) : ∀ l : List α, l.findSome? (fun x => (g x).map f) = (l.findSome? g).map f
  | [] => rfl
  | a :: l => by
    rw [List.findSome?_cons, List.findSome?_cons, findSome_map f g l]
    cases g a <;> rfl
/-! ### the stands with a number, without one -/
def nums (n : Nat) (t : T2) (e : Nat) : List Nat := (List.range n).filter fun s => (t s e).isSome
def nones (n : Nat) (t : T2) (e : Nat) : List Nat := (List.range n).filter fun s => (t s e).isNone
def natsD (l : List Nat) : D := .lst (l.map fun s => .int (s : Nat))
@[simp] theorem shds_nats (l : List Nat) : shds (l.map fun s => D.int (s : Nat)) = true := by rw [shds_all]; simp [sSeq, sForget, sIf, sSet, sRet, sPass, sCont, sBreak, sRetN, sDrop, sSetIx, sApp, sAsg, lf, eTest, eTru, toBl, eOp2, eV, eC, eSh, toShd, eFz, fFz, eIf, fIf, fTest, fOp2, eAnd, eOr, eNot, eAndV, eOrV, eNotV, eTup, eLst, eNil, eCons, fNil, fCons, fTup, fLst, eCB, fCB, eUn, pNeg, eSl, oNone, oSome, toIntO, pSub, pMul, pDiv, pMod, pPow, pLt, pLe, pGt, pGe, intOp, cT, cDiv, cMod, cPow, pAbs, pInt, pMax2, pMin2, plN, plIx, RPs, RPe, atP, getP, setP, setD, appD, okL, ixStep, eCall, eCallB, apN, fMv, fMvP, bName, bTup, bCons, bNil, wipeD, shd, frz, cIt, itE, eIsi, isiB, argsAt, restD, vsOk, Fl.val, nx, nxE, stp, isScal, updP, List.all_map, Function.comp_def, shd]
@[simp] theorem frzs_nats (l : List Nat) : frzs (l.map fun s => D.int (s : Nat)) = l.map fun s => D.int (s : Nat) := by rw [frzs_map]; simp [sSeq, sForget, sIf, sSet, sRet, sPass, sCont, sBreak, sRetN, sDrop, sSetIx, sApp, sAsg, lf, eTest, eTru, toBl, eOp2, eV, eC, eSh, toShd, eFz, fFz, eIf, fIf, fTest, fOp2, eAnd, eOr, eNot, eAndV, eOrV, eNotV, eTup, eLst, eNil, eCons, fNil, fCons, fTup, fLst, eCB, fCB, eUn, pNeg, eSl, oNone, oSome, toIntO, pSub, pMul, pDiv, pMod, pPow, pLt, pLe, pGt, pGe, intOp, cT, cDiv, cMod, cPow, pAbs, pInt, pMax2, pMin2, plN, plIx, RPs, RPe, atP, getP, setP, setD, appD, okL, ixStep, eCall, eCallB, apN, fMv, fMvP, bName, bTup, bCons, bNil, wipeD, shd, frz, cIt, itE, eIsi, isiB, argsAt, restD, vsOk, Fl.val, nx, nxE, stp, isScal, updP, List.map_map, Function.comp_def]
@[simp] theorem shd_nats (l : List Nat) : shd (natsD l) = true := by simp [sSeq, sForget, sIf, sSet, sRet, sPass, sCont, sBreak, sRetN, sDrop, sSetIx, sApp, sAsg, lf, eTest, eTru, toBl, eOp2, eV, eC, eSh, toShd, eFz, fFz, eIf, fIf, fTest, fOp2, eAnd, eOr, eNot, eAndV, eOrV, eNotV, eTup, eLst, eNil, eCons, fNil, fCons, fTup, fLst, eCB, fCB, eUn, pNeg, eSl, oNone, oSome, toIntO, pSub, pMul, pDiv, pMod, pPow, pLt, pLe, pGt, pGe, intOp, cT, cDiv, cMod, cPow, pAbs, pInt, pMax2, pMin2, plN, plIx, RPs, RPe, atP, getP, setP, setD, appD, okL, ixStep, eCall, eCallB, apN, fMv, fMvP, bName, bTup, bCons, bNil, wipeD, shd, frz, cIt, itE, eIsi, isiB, argsAt, restD, vsOk, Fl.val, nx, nxE, stp, isScal, updP, natsD]
@[simp] theorem known_nats (l : List Nat) : known (some (natsD l)) = .ok (natsD l) := rfl
@[simp] theorem len_nats (l : List Nat) : pLen [natsD l] = .ok (.int l.length) := by simp [sSeq, sForget, sIf, sSet, sRet, sPass, sCont, sBreak, sRetN, sDrop, sSetIx, sApp, sAsg, lf, eTest, eTru, toBl, eOp2, eV, eC, eSh, toShd, eFz, fFz, eIf, fIf, fTest, fOp2, eAnd, eOr, eNot, eAndV, eOrV, eNotV, eTup, eLst, eNil, eCons, fNil, fCons, fTup, fLst, eCB, fCB, eUn, pNeg, eSl, oNone, oSome, toIntO, pSub, pMul, pDiv, pMod, pPow, pLt, pLe, pGt, pGe, intOp, cT, cDiv, cMod, cPow, pAbs, pInt, pMax2, pMin2, plN, plIx, RPs, RPe, atP, getP, setP, setD, appD, okL, ixStep, eCall, eCallB, apN, fMv, fMvP, bName, bTup, bCons, bNil, wipeD, shd, frz, cIt, itE, eIsi, isiB, argsAt, restD, vsOk, Fl.val, nx, nxE, stp, isScal, updP, natsD]
@[simp] theorem tru_nats (l : List Nat) : toTru (natsD l) = .ok (!l.isEmpty) := by cases l <;> simp [sSeq, sForget, sIf, sSet, sRet, sPass, sCont, sBreak, sRetN, sDrop, sSetIx, sApp, sAsg, lf, eTest, eTru, toBl, eOp2, eV, eC, eSh, toShd, eFz, fFz, eIf, fIf, fTest, fOp2, eAnd, eOr, eNot, eAndV, eOrV, eNotV, eTup, eLst, eNil, eCons, fNil, fCons, fTup, fLst, eCB, fCB, eUn, pNeg, eSl, oNone, oSome, toIntO, pSub, pMul, pDiv, pMod, pPow, pLt, pLe, pGt, pGe, intOp, cT, cDiv, cMod, cPow, pAbs, pInt, pMax2, pMin2, plN, plIx, RPs, RPe, atP, getP, setP, setD, appD, okL, ixStep, eCall, eCallB, apN, fMv, fMvP, bName, bTup, bCons, bNil, wipeD, shd, frz, cIt, itE, eIsi, isiB, argsAt, restD, vsOk, Fl.val, nx, nxE, stp, isScal, updP, natsD]
theorem head_nats (a : Nat) (l : List Nat) : pIx (natsD (a :: l)) (.int 0) = .ok (.int a) := by
  simp [sSeq, sForget, sIf, sSet, sRet, sPass, sCont, sBreak, sRetN, sDrop, sSetIx, sApp, sAsg, lf, eTest, eTru, toBl, eOp2, eV, eC, eSh, toShd, eFz, fFz, eIf, fIf, fTest, fOp2, eAnd, eOr, eNot, eAndV, eOrV, eNotV, eTup, eLst, eNil, eCons, fNil, fCons, fTup, fLst, eCB, fCB, eUn, pNeg, eSl, oNone, oSome, toIntO, pSub, pMul, pDiv, pMod, pPow, pLt, pLe, pGt, pGe, intOp, cT, cDiv, cMod, cPow, pAbs, pInt, pMax2, pMin2, plN, plIx, RPs, RPe, atP, getP, setP, setD, appD, okL, ixStep, eCall, eCallB, apN, fMv, fMvP, bName, bTup, bCons, bNil, wipeD, shd, frz, cIt, itE, eIsi, isiB, argsAt, restD, vsOk, Fl.val, nx, nxE, stp, isScal, updP, natsD, atI, ixN]
def mix1 (n : Nat) (t : T2) (e : Nat) : Option (Nat × Nat × Nat) := match nums n t e, nones n t e with
  | a :: _, b :: _ => some (e, a, b)
  | _, _ => none
def mixed (n : Nat) (t : T2) : Option (Nat × Nat × Nat) := (List.range n).findSome? (mix1 n t)
def mixD : Nat × Nat × Nat → D := fun z => .tup [.int z.1, .int z.2.1, .int z.2.2]
theorem split_len {n : Nat} {t : T2} {e : Nat} : (nums n t e).length + (nones n t e).length = n := by
  have : ∀ l : List Nat, (l.filter fun s => (t s e).isSome).length + (l.filter fun s => (t s e).isNone).length = l.length := fun l => by
    induction l with
    | nil => rfl
    | cons a l ih => cases h : t a e <;> simp [sSeq, sForget, sIf, sSet, sRet, sPass, sCont, sBreak, sRetN, sDrop, sSetIx, sApp, sAsg, lf, eTest, eTru, toBl, eOp2, eV, eC, eSh, toShd, eFz, fFz, eIf, fIf, fTest, fOp2, eAnd, eOr, eNot, eAndV, eOrV, eNotV, eTup, eLst, eNil, eCons, fNil, fCons, fTup, fLst, eCB, fCB, eUn, pNeg, eSl, oNone, oSome, toIntO, pSub, pMul, pDiv, pMod, pPow, pLt, pLe, pGt, pGe, intOp, cT, cDiv, cMod, cPow, pAbs, pInt, pMax2, pMin2, plN, plIx, RPs, RPe, atP, getP, setP, setD, appD, okL, ixStep, eCall, eCallB, apN, fMv, fMvP, bName, bTup, bCons, bNil, wipeD, shd, frz, cIt, itE, eIsi, isiB, argsAt, restD, vsOk, Fl.val, nx, nxE, stp, isScal, updP, h] <;> omega
  have := this (List.range n)
  rwa [List.length_range] at this
theorem comp_nums {n e : Nat} (he : e < n) (hn : n ≤ 6) {t : T2} {x y z w : D} : eLc (cItA itE (eCons (eV 0) eNil)) (bTup 2 (bCons (bName 4) (bCons (bName 5) bNil))) (eTest (eOp2 pIsNot (eOp2 pIx (eV 5) (eV 1)) (eC .non))) (eV 4) [4, 5] [tb false n t, .int e, x, y, z, w] = .ok (.own ((nums n t e).map fun s => .int (s : Nat))) := by
  refine eLc_ok (cItA_ok (l := [tb false n t]) (by simp [sSeq, sForget, sIf, sSet, sRet, sPass, sCont, sBreak, sRetN, sDrop, sSetIx, sApp, sAsg, lf, eTest, eTru, toBl, eOp2, eV, eC, eSh, toShd, eFz, fFz, eIf, fIf, fTest, fOp2, eAnd, eOr, eNot, eAndV, eOrV, eNotV, eTup, eLst, eNil, eCons, fNil, fCons, fTup, fLst, eCB, fCB, eUn, pNeg, eSl, oNone, oSome, toIntO, pSub, pMul, pDiv, pMod, pPow, pLt, pLe, pGt, pGe, intOp, cT, cDiv, cMod, cPow, pAbs, pInt, pMax2, pMin2, plN, plIx, RPs, RPe, atP, getP, setP, setD, appD, okL, ixStep, eCall, eCallB, apN, fMv, fMvP, bName, bTup, bCons, bNil, wipeD, shd, frz, cIt, itE, eIsi, isiB, argsAt, restD, vsOk, Fl.val, nx, nxE, stp, isScal, updP]) enum_tb) (by simp [sSeq, sForget, sIf, sSet, sRet, sPass, sCont, sBreak, sRetN, sDrop, sSetIx, sApp, sAsg, lf, eTest, eTru, toBl, eOp2, eV, eC, eSh, toShd, eFz, fFz, eIf, fIf, fTest, fOp2, eAnd, eOr, eNot, eAndV, eOrV, eNotV, eTup, eLst, eNil, eCons, fNil, fCons, fTup, fLst, eCB, fCB, eUn, pNeg, eSl, oNone, oSome, toIntO, pSub, pMul, pDiv, pMod, pPow, pLt, pLe, pGt, pGe, intOp, cT, cDiv, cMod, cPow, pAbs, pInt, pMax2, pMin2, plN, plIx, RPs, RPe, atP, getP, setP, setD, appD, okL, ixStep, eCall, eCallB, apN, fMv, fMvP, bName, bTup, bCons, bNil, wipeD, shd, frz, cIt, itE, eIsi, isiB, argsAt, restD, vsOk, Fl.val, nx, nxE, stp, isScal, updP]; exact size_ok (by omega)) ?_
  refine lcGo_map (item := fun s : Nat => .tup [.int (s : Nat), rowD false n (t s)]) (p := fun s => (t s e).isSome) (h := fun s : Nat => .int (s : Nat)) _ (fun s hs => ?_)
  have a1 := ix_row (o := false) (f := t s) he
  exact ⟨[tb false n t, .int e, x, y, .int s, rowD false n (t s)], by simp [sSeq, sForget, sIf, sSet, sRet, sPass, sCont, sBreak, sRetN, sDrop, sSetIx, sApp, sAsg, lf, eTest, eTru, toBl, eOp2, eV, eC, eSh, toShd, eFz, fFz, eIf, fIf, fTest, fOp2, eAnd, eOr, eNot, eAndV, eOrV, eNotV, eTup, eLst, eNil, eCons, fNil, fCons, fTup, fLst, eCB, fCB, eUn, pNeg, eSl, oNone, oSome, toIntO, pSub, pMul, pDiv, pMod, pPow, pLt, pLe, pGt, pGe, intOp, cT, cDiv, cMod, cPow, pAbs, pInt, pMax2, pMin2, plN, plIx, RPs, RPe, atP, getP, setP, setD, appD, okL, ixStep, eCall, eCallB, apN, fMv, fMvP, bName, bTup, bCons, bNil, wipeD, shd, frz, cIt, itE, eIsi, isiB, argsAt, restD, vsOk, Fl.val, nx, nxE, stp, isScal, updP], by simp [sSeq, sForget, sIf, sSet, sRet, sPass, sCont, sBreak, sRetN, sDrop, sSetIx, sApp, sAsg, lf, eTest, eTru, toBl, eOp2, eV, eC, eSh, toShd, eFz, fFz, eIf, fIf, fTest, fOp2, eAnd, eOr, eNot, eAndV, eOrV, eNotV, eTup, eLst, eNil, eCons, fNil, fCons, fTup, fLst, eCB, fCB, eUn, pNeg, eSl, oNone, oSome, toIntO, pSub, pMul, pDiv, pMod, pPow, pLt, pLe, pGt, pGe, intOp, cT, cDiv, cMod, cPow, pAbs, pInt, pMax2, pMin2, plN, plIx, RPs, RPe, atP, getP, setP, setD, appD, okL, ixStep, eCall, eCallB, apN, fMv, fMvP, bName, bTup, bCons, bNil, wipeD, shd, frz, cIt, itE, eIsi, isiB, argsAt, restD, vsOk, Fl.val, nx, nxE, stp, isScal, updP, a1], fun _ => by simp [sSeq, sForget, sIf, sSet, sRet, sPass, sCont, sBreak, sRetN, sDrop, sSetIx, sApp, sAsg, lf, eTest, eTru, toBl, eOp2, eV, eC, eSh, toShd, eFz, fFz, eIf, fIf, fTest, fOp2, eAnd, eOr, eNot, eAndV, eOrV, eNotV, eTup, eLst, eNil, eCons, fNil, fCons, fTup, fLst, eCB, fCB, eUn, pNeg, eSl, oNone, oSome, toIntO, pSub, pMul, pDiv, pMod, pPow, pLt, pLe, pGt, pGe, intOp, cT, cDiv, cMod, cPow, pAbs, pInt, pMax2, pMin2, plN, plIx, RPs, RPe, atP, getP, setP, setD, appD, okL, ixStep, eCall, eCallB, apN, fMv, fMvP, bName, bTup, bCons, bNil, wipeD, shd, frz, cIt, itE, eIsi, isiB, argsAt, restD, vsOk, Fl.val, nx, nxE, stp, isScal, updP]⟩
theorem comp_nones {n e : Nat} (he : e < n) (hn : n ≤ 6) {t : T2} {x y z w : D} : eLc (cItA itE (eCons (eV 0) eNil)) (bTup 2 (bCons (bName 4) (bCons (bName 5) bNil))) (eTest (eOp2 pIs (eOp2 pIx (eV 5) (eV 1)) (eC .non))) (eV 4) [4, 5] [tb false n t, .int e, x, y, z, w] = .ok (.own ((nones n t e).map fun s => .int (s : Nat))) := by
  refine eLc_ok (cItA_ok (l := [tb false n t]) (by simp [sSeq, sForget, sIf, sSet, sRet, sPass, sCont, sBreak, sRetN, sDrop, sSetIx, sApp, sAsg, lf, eTest, eTru, toBl, eOp2, eV, eC, eSh, toShd, eFz, fFz, eIf, fIf, fTest, fOp2, eAnd, eOr, eNot, eAndV, eOrV, eNotV, eTup, eLst, eNil, eCons, fNil, fCons, fTup, fLst, eCB, fCB, eUn, pNeg, eSl, oNone, oSome, toIntO, pSub, pMul, pDiv, pMod, pPow, pLt, pLe, pGt, pGe, intOp, cT, cDiv, cMod, cPow, pAbs, pInt, pMax2, pMin2, plN, plIx, RPs, RPe, atP, getP, setP, setD, appD, okL, ixStep, eCall, eCallB, apN, fMv, fMvP, bName, bTup, bCons, bNil, wipeD, shd, frz, cIt, itE, eIsi, isiB, argsAt, restD, vsOk, Fl.val, nx, nxE, stp, isScal, updP]) enum_tb) (by simp [sSeq, sForget, sIf, sSet, sRet, sPass, sCont, sBreak, sRetN, sDrop, sSetIx, sApp, sAsg, lf, eTest, eTru, toBl, eOp2, eV, eC, eSh, toShd, eFz, fFz, eIf, fIf, fTest, fOp2, eAnd, eOr, eNot, eAndV, eOrV, eNotV, eTup, eLst, eNil, eCons, fNil, fCons, fTup, fLst, eCB, fCB, eUn, pNeg, eSl, oNone, oSome, toIntO, pSub, pMul, pDiv, pMod, pPow, pLt, pLe, pGt, pGe, intOp, cT, cDiv, cMod, cPow, pAbs, pInt, pMax2, pMin2, plN, plIx, RPs, RPe, atP, getP, setP, setD, appD, okL, ixStep, eCall, eCallB, apN, fMv, fMvP, bName, bTup, bCons, bNil, wipeD, shd, frz, cIt, itE, eIsi, isiB, argsAt, restD, vsOk, Fl.val, nx, nxE, stp, isScal, updP]; exact size_ok (by omega)) ?_
  refine lcGo_map (item := fun s : Nat => .tup [.int (s : Nat), rowD false n (t s)]) (p := fun s => (t s e).isNone) (h := fun s : Nat => .int (s : Nat)) _ (fun s hs => ?_)
  have a1 := ix_row (o := false) (f := t s) he
  exact ⟨[tb false n t, .int e, x, y, .int s, rowD false n (t s)], by simp [sSeq, sForget, sIf, sSet, sRet, sPass, sCont, sBreak, sRetN, sDrop, sSetIx, sApp, sAsg, lf, eTest, eTru, toBl, eOp2, eV, eC, eSh, toShd, eFz, fFz, eIf, fIf, fTest, fOp2, eAnd, eOr, eNot, eAndV, eOrV, eNotV, eTup, eLst, eNil, eCons, fNil, fCons, fTup, fLst, eCB, fCB, eUn, pNeg, eSl, oNone, oSome, toIntO, pSub, pMul, pDiv, pMod, pPow, pLt, pLe, pGt, pGe, intOp, cT, cDiv, cMod, cPow, pAbs, pInt, pMax2, pMin2, plN, plIx, RPs, RPe, atP, getP, setP, setD, appD, okL, ixStep, eCall, eCallB, apN, fMv, fMvP, bName, bTup, bCons, bNil, wipeD, shd, frz, cIt, itE, eIsi, isiB, argsAt, restD, vsOk, Fl.val, nx, nxE, stp, isScal, updP], by simp [sSeq, sForget, sIf, sSet, sRet, sPass, sCont, sBreak, sRetN, sDrop, sSetIx, sApp, sAsg, lf, eTest, eTru, toBl, eOp2, eV, eC, eSh, toShd, eFz, fFz, eIf, fIf, fTest, fOp2, eAnd, eOr, eNot, eAndV, eOrV, eNotV, eTup, eLst, eNil, eCons, fNil, fCons, fTup, fLst, eCB, fCB, eUn, pNeg, eSl, oNone, oSome, toIntO, pSub, pMul, pDiv, pMod, pPow, pLt, pLe, pGt, pGe, intOp, cT, cDiv, cMod, cPow, pAbs, pInt, pMax2, pMin2, plN, plIx, RPs, RPe, atP, getP, setP, setD, appD, okL, ixStep, eCall, eCallB, apN, fMv, fMvP, bName, bTup, bCons, bNil, wipeD, shd, frz, cIt, itE, eIsi, isiB, argsAt, restD, vsOk, Fl.val, nx, nxE, stp, isScal, updP, a1], fun _ => by simp [sSeq, sForget, sIf, sSet, sRet, sPass, sCont, sBreak, sRetN, sDrop, sSetIx, sApp, sAsg, lf, eTest, eTru, toBl, eOp2, eV, eC, eSh, toShd, eFz, fFz, eIf, fIf, fTest, fOp2, eAnd, eOr, eNot, eAndV, eOrV, eNotV, eTup, eLst, eNil, eCons, fNil, fCons, fTup, fLst, eCB, fCB, eUn, pNeg, eSl, oNone, oSome, toIntO, pSub, pMul, pDiv, pMod, pPow, pLt, pLe, pGt, pGe, intOp, cT, cDiv, cMod, cPow, pAbs, pInt, pMax2, pMin2, plN, plIx, RPs, RPe, atP, getP, setP, setD, appD, okL, ixStep, eCall, eCallB, apN, fMv, fMvP, bName, bTup, bCons, bNil, wipeD, shd, frz, cIt, itE, eIsi, isiB, argsAt, restD, vsOk, Fl.val, nx, nxE, stp, isScal, updP]⟩
def sq (n : Nat) (t : T2) : Env := [tb false n t, .unk, .unk, .unk, .unk, .unk]
theorem mixed_step {n e : Nat} (he : e < n) (hn : n ≤ 6) {t : T2} : match (mix1 n t e).map mixD with
    | none => stp (bName 1) b1_mixed_column (.int e) (sq n t) = .nx (sq n t) ∨ stp (bName 1) b1_mixed_column (.int e) (sq n t) = .ct (sq n t)
    | some d => ∃ e', stp (bName 1) b1_mixed_column (.int e) (sq n t) = .rt d e' := by
  have hlen := split_len (n := n) (t := t) (e := e)
  have h1 : sSet 2 (lf (eFz (eLc (cItA itE (eCons (eV 0) eNil)) (bTup 2 (bCons (bName 4) (bCons (bName 5) bNil))) (eTest (eOp2 pIsNot (eOp2 pIx (eV 5) (eV 1)) (eC .non))) (eV 4) [4, 5]))) [tb false n t, .int e, .unk, .unk, .unk, .unk] = .nx [tb false n t, .int e, natsD (nums n t e), .unk, .unk, .unk] := by
    unfold sSet lf eFz; rw [comp_nums he hn]; simp [sSeq, sForget, sIf, sSet, sRet, sPass, sCont, sBreak, sRetN, sDrop, sSetIx, sApp, sAsg, lf, eTest, eTru, toBl, eOp2, eV, eC, eSh, toShd, eFz, fFz, eIf, fIf, fTest, fOp2, eAnd, eOr, eNot, eAndV, eOrV, eNotV, eTup, eLst, eNil, eCons, fNil, fCons, fTup, fLst, eCB, fCB, eUn, pNeg, eSl, oNone, oSome, toIntO, pSub, pMul, pDiv, pMod, pPow, pLt, pLe, pGt, pGe, intOp, cT, cDiv, cMod, cPow, pAbs, pInt, pMax2, pMin2, plN, plIx, RPs, RPe, atP, getP, setP, setD, appD, okL, ixStep, eCall, eCallB, apN, fMv, fMvP, bName, bTup, bCons, bNil, wipeD, shd, frz, cIt, itE, eIsi, isiB, argsAt, restD, vsOk, Fl.val, nx, nxE, stp, isScal, updP, natsD]
  have h2 : sSet 3 (lf (eFz (eLc (cItA itE (eCons (eV 0) eNil)) (bTup 2 (bCons (bName 4) (bCons (bName 5) bNil))) (eTest (eOp2 pIs (eOp2 pIx (eV 5) (eV 1)) (eC .non))) (eV 4) [4, 5]))) [tb false n t, .int e, natsD (nums n t e), .unk, .unk, .unk] = .nx [tb false n t, .int e, natsD (nums n t e), natsD (nones n t e), .unk, .unk] := by
    unfold sSet lf eFz; rw [comp_nones he hn]; simp [sSeq, sForget, sIf, sSet, sRet, sPass, sCont, sBreak, sRetN, sDrop, sSetIx, sApp, sAsg, lf, eTest, eTru, toBl, eOp2, eV, eC, eSh, toShd, eFz, fFz, eIf, fIf, fTest, fOp2, eAnd, eOr, eNot, eAndV, eOrV, eNotV, eTup, eLst, eNil, eCons, fNil, fCons, fTup, fLst, eCB, fCB, eUn, pNeg, eSl, oNone, oSome, toIntO, pSub, pMul, pDiv, pMod, pPow, pLt, pLe, pGt, pGe, intOp, cT, cDiv, cMod, cPow, pAbs, pInt, pMax2, pMin2, plN, plIx, RPs, RPe, atP, getP, setP, setD, appD, okL, ixStep, eCall, eCallB, apN, fMv, fMvP, bName, bTup, bCons, bNil, wipeD, shd, frz, cIt, itE, eIsi, isiB, argsAt, restD, vsOk, Fl.val, nx, nxE, stp, isScal, updP, natsD]
  have E0 : stp (bName 1) b1_mixed_column (.int e) (sq n t) = b1_mixed_column [tb false n t, .int e, .unk, .unk, .unk, .unk] := rfl
  rw [E0]
  have c : lf (eAnd (eTru (eV 2)) (eTest (eOp2 pLt (eCB pLen (eCons (eV 2) eNil)) (eCB pLen (eCons (eV 0) eNil))))) [tb false n t, .int e, natsD (nums n t e), .unk, .unk, .unk] = .ok (mix1 n t e).isSome [tb false n t, .int e, natsD (nums n t e), .unk, .unk, .unk] := by
    unfold mix1
    cases q1 : nums n t e with
    | nil => simp [sSeq, sForget, sIf, sSet, sRet, sPass, sCont, sBreak, sRetN, sDrop, sSetIx, sApp, sAsg, lf, eTest, eTru, toBl, eOp2, eV, eC, eSh, toShd, eFz, fFz, eIf, fIf, fTest, fOp2, eAnd, eOr, eNot, eAndV, eOrV, eNotV, eTup, eLst, eNil, eCons, fNil, fCons, fTup, fLst, eCB, fCB, eUn, pNeg, eSl, oNone, oSome, toIntO, pSub, pMul, pDiv, pMod, pPow, pLt, pLe, pGt, pGe, intOp, cT, cDiv, cMod, cPow, pAbs, pInt, pMax2, pMin2, plN, plIx, RPs, RPe, atP, getP, setP, setD, appD, okL, ixStep, eCall, eCallB, apN, fMv, fMvP, bName, bTup, bCons, bNil, wipeD, shd, frz, cIt, itE, eIsi, isiB, argsAt, restD, vsOk, Fl.val, nx, nxE, stp, isScal, updP]
    | cons a l =>
      rw [q1] at hlen
      cases q2 : nones n t e with
      | nil => rw [q2] at hlen; simp [sSeq, sForget, sIf, sSet, sRet, sPass, sCont, sBreak, sRetN, sDrop, sSetIx, sApp, sAsg, lf, eTest, eTru, toBl, eOp2, eV, eC, eSh, toShd, eFz, fFz, eIf, fIf, fTest, fOp2, eAnd, eOr, eNot, eAndV, eOrV, eNotV, eTup, eLst, eNil, eCons, fNil, fCons, fTup, fLst, eCB, fCB, eUn, pNeg, eSl, oNone, oSome, toIntO, pSub, pMul, pDiv, pMod, pPow, pLt, pLe, pGt, pGe, intOp, cT, cDiv, cMod, cPow, pAbs, pInt, pMax2, pMin2, plN, plIx, RPs, RPe, atP, getP, setP, setD, appD, okL, ixStep, eCall, eCallB, apN, fMv, fMvP, bName, bTup, bCons, bNil, wipeD, shd, frz, cIt, itE, eIsi, isiB, argsAt, restD, vsOk, Fl.val, nx, nxE, stp, isScal, updP] at hlen; simp [sSeq, sForget, sIf, sSet, sRet, sPass, sCont, sBreak, sRetN, sDrop, sSetIx, sApp, sAsg, lf, eTest, eTru, toBl, eOp2, eV, eC, eSh, toShd, eFz, fFz, eIf, fIf, fTest, fOp2, eAnd, eOr, eNot, eAndV, eOrV, eNotV, eTup, eLst, eNil, eCons, fNil, fCons, fTup, fLst, eCB, fCB, eUn, pNeg, eSl, oNone, oSome, toIntO, pSub, pMul, pDiv, pMod, pPow, pLt, pLe, pGt, pGe, intOp, cT, cDiv, cMod, cPow, pAbs, pInt, pMax2, pMin2, plN, plIx, RPs, RPe, atP, getP, setP, setD, appD, okL, ixStep, eCall, eCallB, apN, fMv, fMvP, bName, bTup, bCons, bNil, wipeD, shd, frz, cIt, itE, eIsi, isiB, argsAt, restD, vsOk, Fl.val, nx, nxE, stp, isScal, updP, hlen]
      | cons b l2 =>
        rw [q2] at hlen
        have hlt : ((l.length : Int) + 1) < n := by simp [sSeq, sForget, sIf, sSet, sRet, sPass, sCont, sBreak, sRetN, sDrop, sSetIx, sApp, sAsg, lf, eTest, eTru, toBl, eOp2, eV, eC, eSh, toShd, eFz, fFz, eIf, fIf, fTest, fOp2, eAnd, eOr, eNot, eAndV, eOrV, eNotV, eTup, eLst, eNil, eCons, fNil, fCons, fTup, fLst, eCB, fCB, eUn, pNeg, eSl, oNone, oSome, toIntO, pSub, pMul, pDiv, pMod, pPow, pLt, pLe, pGt, pGe, intOp, cT, cDiv, cMod, cPow, pAbs, pInt, pMax2, pMin2, plN, plIx, RPs, RPe, atP, getP, setP, setD, appD, okL, ixStep, eCall, eCallB, apN, fMv, fMvP, bName, bTup, bCons, bNil, wipeD, shd, frz, cIt, itE, eIsi, isiB, argsAt, restD, vsOk, Fl.val, nx, nxE, stp, isScal, updP] at hlen; omega
        simp [sSeq, sForget, sIf, sSet, sRet, sPass, sCont, sBreak, sRetN, sDrop, sSetIx, sApp, sAsg, lf, eTest, eTru, toBl, eOp2, eV, eC, eSh, toShd, eFz, fFz, eIf, fIf, fTest, fOp2, eAnd, eOr, eNot, eAndV, eOrV, eNotV, eTup, eLst, eNil, eCons, fNil, fCons, fTup, fLst, eCB, fCB, eUn, pNeg, eSl, oNone, oSome, toIntO, pSub, pMul, pDiv, pMod, pPow, pLt, pLe, pGt, pGe, intOp, cT, cDiv, cMod, cPow, pAbs, pInt, pMax2, pMin2, plN, plIx, RPs, RPe, atP, getP, setP, setD, appD, okL, ixStep, eCall, eCallB, apN, fMv, fMvP, bName, bTup, bCons, bNil, wipeD, shd, frz, cIt, itE, eIsi, isiB, argsAt, restD, vsOk, Fl.val, nx, nxE, stp, isScal, updP, hlt]
  cases q : mix1 n t e with
  | none =>
    rw [q] at c
    left
    refine forget_nx (e := [tb false n t, .int e, natsD (nums n t e), .unk, .unk, .unk]) (seq_nx h1 (forget_nx (e := [tb false n t, .int e, natsD (nums n t e), .unk, .unk, .unk]) ?_))
    unfold sIf; rw [c]; rfl
  | some z =>
    rw [q] at c
    have hz : ∃ a b l l2, nums n t e = a :: l ∧ nones n t e = b :: l2 ∧ z = (e, a, b) := by
      unfold mix1 at q
      split at q
      · rename_i a l b l2 h1 h2; cases q; exact ⟨a, b, l, l2, h1, h2, rfl⟩
      · cases q
    obtain ⟨a, b, l, l2, q1, q2, rfl⟩ := hz
    refine ⟨_, forget_rt (seq_nx h1 (forget_rt (e := [tb false n t, .int e, natsD (nums n t e), natsD (nones n t e), .unk, .unk]) ?_))⟩
    unfold sIf; rw [c]
    refine seq_nx h2 ?_
    rw [q1, q2]
    simp [sSeq, sForget, sIf, sSet, sRet, sPass, sCont, sBreak, sRetN, sDrop, sSetIx, sApp, sAsg, lf, eTest, eTru, toBl, eOp2, eV, eC, eSh, toShd, eFz, fFz, eIf, fIf, fTest, fOp2, eAnd, eOr, eNot, eAndV, eOrV, eNotV, eTup, eLst, eNil, eCons, fNil, fCons, fTup, fLst, eCB, fCB, eUn, pNeg, eSl, oNone, oSome, toIntO, pSub, pMul, pDiv, pMod, pPow, pLt, pLe, pGt, pGe, intOp, cT, cDiv, cMod, cPow, pAbs, pInt, pMax2, pMin2, plN, plIx, RPs, RPe, atP, getP, setP, setD, appD, okL, ixStep, eCall, eCallB, apN, fMv, fMvP, bName, bTup, bCons, bNil, wipeD, shd, frz, cIt, itE, eIsi, isiB, argsAt, restD, vsOk, Fl.val, nx, nxE, stp, isScal, updP, head_nats, mixD, PySem.sizeLine]
theorem mixed_spec {n : Nat} (hn : n ≤ 6) {t : T2} : (f_mixed_column [tb false n t]).dr = .ok (match mixed n t with | none => .non | some z => mixD z) := by
  have lp := forGo_find (b := bName 1) (f := b1_mixed_column) (item := fun e : Nat => .int (e : Nat)) (E := sq n t) (h := fun e => (mix1 n t e).map mixD) (List.range n) (fun e he => mixed_step (List.mem_range.mp he) hn)
  have fs : (List.range n).findSome? (fun e => (mix1 n t e).map mixD) = (mixed n t).map mixD := by
    unfold mixed; exact findSome_map _ _ _
  rw [fs] at lp
  have src : cItA itR1 (eCons (eCB pLen (eCons (eV 0) eNil)) eNil) (sq n t) = .ok ((List.range n).map fun i => .int (i : Nat)) := rng1 (n := n) (by simp [sSeq, sForget, sIf, sSet, sRet, sPass, sCont, sBreak, sRetN, sDrop, sSetIx, sApp, sAsg, lf, eTest, eTru, toBl, eOp2, eV, eC, eSh, toShd, eFz, fFz, eIf, fIf, fTest, fOp2, eAnd, eOr, eNot, eAndV, eOrV, eNotV, eTup, eLst, eNil, eCons, fNil, fCons, fTup, fLst, eCB, fCB, eUn, pNeg, eSl, oNone, oSome, toIntO, pSub, pMul, pDiv, pMod, pPow, pLt, pLe, pGt, pGe, intOp, cT, cDiv, cMod, cPow, pAbs, pInt, pMax2, pMin2, plN, plIx, RPs, RPe, atP, getP, setP, setD, appD, okL, ixStep, eCall, eCallB, apN, fMv, fMvP, bName, bTup, bCons, bNil, wipeD, shd, frz, cIt, itE, eIsi, isiB, argsAt, restD, vsOk, Fl.val, nx, nxE, stp, isScal, updP, sq]) (by omega)
  refine mkF_val (env0 := sq n t) rfl ?_
  unfold m_mixed_column
  cases q : mixed n t with
  | none =>
    rw [q] at lp
    have lp' : forGo (bName 1) b1_mixed_column ((List.range n).map fun e : Nat => .int (e : Nat)) (sq n t) = .nx (sq n t) := lp
    exact seqv (forget_nx ((sFor_ok src).trans lp')) rfl
  | some z =>
    rw [q] at lp
    obtain ⟨e', lp⟩ := lp
    rw [seq_rt (forget_rt ((sFor_ok src).trans lp))]
    rfl
theorem numcols_spec {n : Nat} (hn : n ≤ 6) (hn1 : 1 ≤ n) {t : T2} : (f_number_columns [tb false n t]).dr = .ok (.own ((cols n t).map fun e => .int (e : Nat))) := by
  refine mkF_val (env0 := [tb false n t, .unk, .unk]) rfl ?_
  have a0 : pIx (tb false n t) (.int 0) = .ok (rowD false n (t 0)) := ix_tb (x := 0) (by omega)
  have c : eLc (cItA itE (eCons (eOp2 pIx (eV 0) (eC (.int 0))) eNil)) (bTup 2 (bCons (bName 1) (bCons (bName 2) bNil))) (eTest (eOp2 pIsNot (eV 2) (eC .non))) (eV 1) [1, 2] [tb false n t, .unk, .unk] = .ok (.own ((cols n t).map fun e => .int (e : Nat))) := by
    refine eLc_ok (cItA_ok (l := [rowD false n (t 0)]) (by simp [sSeq, sForget, sIf, sSet, sRet, sPass, sCont, sBreak, sRetN, sDrop, sSetIx, sApp, sAsg, lf, eTest, eTru, toBl, eOp2, eV, eC, eSh, toShd, eFz, fFz, eIf, fIf, fTest, fOp2, eAnd, eOr, eNot, eAndV, eOrV, eNotV, eTup, eLst, eNil, eCons, fNil, fCons, fTup, fLst, eCB, fCB, eUn, pNeg, eSl, oNone, oSome, toIntO, pSub, pMul, pDiv, pMod, pPow, pLt, pLe, pGt, pGe, intOp, cT, cDiv, cMod, cPow, pAbs, pInt, pMax2, pMin2, plN, plIx, RPs, RPe, atP, getP, setP, setD, appD, okL, ixStep, eCall, eCallB, apN, fMv, fMvP, bName, bTup, bCons, bNil, wipeD, shd, frz, cIt, itE, eIsi, isiB, argsAt, restD, vsOk, Fl.val, nx, nxE, stp, isScal, updP, a0]) enum_row) (by simp [sSeq, sForget, sIf, sSet, sRet, sPass, sCont, sBreak, sRetN, sDrop, sSetIx, sApp, sAsg, lf, eTest, eTru, toBl, eOp2, eV, eC, eSh, toShd, eFz, fFz, eIf, fIf, fTest, fOp2, eAnd, eOr, eNot, eAndV, eOrV, eNotV, eTup, eLst, eNil, eCons, fNil, fCons, fTup, fLst, eCB, fCB, eUn, pNeg, eSl, oNone, oSome, toIntO, pSub, pMul, pDiv, pMod, pPow, pLt, pLe, pGt, pGe, intOp, cT, cDiv, cMod, cPow, pAbs, pInt, pMax2, pMin2, plN, plIx, RPs, RPe, atP, getP, setP, setD, appD, okL, ixStep, eCall, eCallB, apN, fMv, fMvP, bName, bTup, bCons, bNil, wipeD, shd, frz, cIt, itE, eIsi, isiB, argsAt, restD, vsOk, Fl.val, nx, nxE, stp, isScal, updP]; exact size_ok (by omega)) ?_
    refine lcGo_map (item := fun e : Nat => .tup [.int (e : Nat), oD (t 0 e)]) (p := fun e => (t 0 e).isSome) (h := fun e : Nat => .int (e : Nat)) _ (fun e he => ?_)
    exact ⟨[tb false n t, .int e, oD (t 0 e)], by simp [sSeq, sForget, sIf, sSet, sRet, sPass, sCont, sBreak, sRetN, sDrop, sSetIx, sApp, sAsg, lf, eTest, eTru, toBl, eOp2, eV, eC, eSh, toShd, eFz, fFz, eIf, fIf, fTest, fOp2, eAnd, eOr, eNot, eAndV, eOrV, eNotV, eTup, eLst, eNil, eCons, fNil, fCons, fTup, fLst, eCB, fCB, eUn, pNeg, eSl, oNone, oSome, toIntO, pSub, pMul, pDiv, pMod, pPow, pLt, pLe, pGt, pGe, intOp, cT, cDiv, cMod, cPow, pAbs, pInt, pMax2, pMin2, plN, plIx, RPs, RPe, atP, getP, setP, setD, appD, okL, ixStep, eCall, eCallB, apN, fMv, fMvP, bName, bTup, bCons, bNil, wipeD, shd, frz, cIt, itE, eIsi, isiB, argsAt, restD, vsOk, Fl.val, nx, nxE, stp, isScal, updP], by simp [sSeq, sForget, sIf, sSet, sRet, sPass, sCont, sBreak, sRetN, sDrop, sSetIx, sApp, sAsg, lf, eTest, eTru, toBl, eOp2, eV, eC, eSh, toShd, eFz, fFz, eIf, fIf, fTest, fOp2, eAnd, eOr, eNot, eAndV, eOrV, eNotV, eTup, eLst, eNil, eCons, fNil, fCons, fTup, fLst, eCB, fCB, eUn, pNeg, eSl, oNone, oSome, toIntO, pSub, pMul, pDiv, pMod, pPow, pLt, pLe, pGt, pGe, intOp, cT, cDiv, cMod, cPow, pAbs, pInt, pMax2, pMin2, plN, plIx, RPs, RPe, atP, getP, setP, setD, appD, okL, ixStep, eCall, eCallB, apN, fMv, fMvP, bName, bTup, bCons, bNil, wipeD, shd, frz, cIt, itE, eIsi, isiB, argsAt, restD, vsOk, Fl.val, nx, nxE, stp, isScal, updP], fun _ => by simp [sSeq, sForget, sIf, sSet, sRet, sPass, sCont, sBreak, sRetN, sDrop, sSetIx, sApp, sAsg, lf, eTest, eTru, toBl, eOp2, eV, eC, eSh, toShd, eFz, fFz, eIf, fIf, fTest, fOp2, eAnd, eOr, eNot, eAndV, eOrV, eNotV, eTup, eLst, eNil, eCons, fNil, fCons, fTup, fLst, eCB, fCB, eUn, pNeg, eSl, oNone, oSome, toIntO, pSub, pMul, pDiv, pMod, pPow, pLt, pLe, pGt, pGe, intOp, cT, cDiv, cMod, cPow, pAbs, pInt, pMax2, pMin2, plN, plIx, RPs, RPe, atP, getP, setP, setD, appD, okL, ixStep, eCall, eCallB, apN, fMv, fMvP, bName, bTup, bCons, bNil, wipeD, shd, frz, cIt, itE, eIsi, isiB, argsAt, restD, vsOk, Fl.val, nx, nxE, stp, isScal, updP]⟩
  unfold m_number_columns sRet lf
  rw [c]; rfl
end K14


set_option Elab.async false
set_option linter.all false
set_option maxRecDepth 100000
set_option maxHeartbeats 4000000
namespace K14
open DP L2 Evl
def vl (t : T2) (x e : Nat) : Int := (t x e).getD 0
/-- no column is mixed -/
def Un (n : Nat) (t : T2) : Prop := ∀ x, x < n → ∀ e, e < n → (t x e).isSome = (t 0 e).isSome
theorem un_of {n : Nat} {t : T2} (h : mixed n t = none) (hn : 1 ≤ n) : Un n t := fun x hx e he => by
  have h1 : mix1 n t e = none := by
    unfold mixed at h
    exact List.findSome?_eq_none_iff.mp h e (List.mem_range.mpr he)
  have key : ∀ x, x < n → ∀ y, y < n → (t x e).isSome = true → (t y e).isSome = true := fun x hx y hy hs => by
    cases q : t y e with
    | some _ => rfl
    | none =>
      exfalso
      have m1 : x ∈ nums n t e := List.mem_filter.mpr ⟨List.mem_range.mpr hx, hs⟩
      have m2 : y ∈ nones n t e := List.mem_filter.mpr ⟨List.mem_range.mpr hy, by simp [sSeq, sForget, sIf, sSet, sRet, sPass, sCont, sBreak, sRetN, sDrop, sSetIx, sApp, sAsg, lf, eTest, eTru, toBl, eOp2, eV, eC, eSh, toShd, eFz, fFz, eIf, fIf, fTest, fOp2, eAnd, eOr, eNot, eAndV, eOrV, eNotV, eTup, eLst, eNil, eCons, fNil, fCons, fTup, fLst, eCB, fCB, eUn, pNeg, eSl, oNone, oSome, toIntO, pSub, pMul, pDiv, pMod, pPow, pLt, pLe, pGt, pGe, intOp, cT, cDiv, cMod, cPow, pAbs, pInt, pMax2, pMin2, plN, plIx, RPs, RPe, atP, getP, setP, setD, appD, okL, ixStep, eCall, eCallB, apN, fMv, fMvP, bName, bTup, bCons, bNil, wipeD, shd, frz, cIt, itE, eIsi, isiB, argsAt, restD, vsOk, Fl.val, nx, nxE, stp, isScal, updP, q]⟩
      unfold mix1 at h1
      split at h1
      · cases h1
      · rename_i hno
        cases q1 : nums n t e with
        | nil => rw [q1] at m1; cases m1
        | cons a l =>
          cases q2 : nones n t e with
          | nil => rw [q2] at m2; cases m2
          | cons b l2 => exact hno a l b l2 q1 q2
  cases q : (t x e).isSome with
  | true => exact (key x hx 0 (by omega) q).symm
  | false =>
    cases q2 : (t 0 e).isSome with
    | false => rfl
    | true => have := key 0 (by omega) x hx q2; rw [q] at this; cases this
theorem un_some {n : Nat} {t : T2} (h : Un n t) {x e : Nat} (hx : x < n) (he : e ∈ cols n t) : t x e = some (vl t x e) := by
  obtain ⟨h1, h2⟩ := cols_mem.mp he
  have := h x hx e h1
  unfold vl
  cases q : t x e with
  | some v => rfl
  | none =>
    rw [q] at this
    cases q2 : t 0 e with
    | none => exact absurd q2 h2
    | some w => rw [q2] at this; cases this
def pc (t : T2) (c x : Nat) : Int := vl t x c - vl t 0 c
def rsx (t : T2) (c x e : Nat) : Bool := vl t x e == pc t c x + vl t 0 e
def rs (n : Nat) (t : T2) (c : Nat) : Bool := (List.range n).all fun x => (cols n t).all fun e => rsx t c x e
def pD (n : Nat) (t : T2) (c : Nat) : D := .own ((List.range n).map fun x => .int (pc t c x))
theorem ix_p {n x : Nat} {t : T2} {c : Nat} (h : x < n) : pIx (pD n t c) (.int (x : Int)) = .ok (.int (pc t c x)) := by unfold pD; rw [pIx_lst, atI_range h]
@[simp] theorem known_pD {n : Nat} {t : T2} {c : Nat} : known (some (pD n t c)) = .ok (pD n t c) := rfl
theorem find_all {α : Type} {d : D} {p : α → Bool} : ∀ l : List α, l.findSome? (fun x => if p x = true then none else some d) = if l.all p = true then none else some d
  | [] => rfl
  | a :: l => by
    rw [List.findSome?_cons, find_all l, List.all_cons]
    cases p a <;> simp [sSeq, sForget, sIf, sSet, sRet, sPass, sCont, sBreak, sRetN, sDrop, sSetIx, sApp, sAsg, lf, eTest, eTru, toBl, eOp2, eV, eC, eSh, toShd, eFz, fFz, eIf, fIf, fTest, fOp2, eAnd, eOr, eNot, eAndV, eOrV, eNotV, eTup, eLst, eNil, eCons, fNil, fCons, fTup, fLst, eCB, fCB, eUn, pNeg, eSl, oNone, oSome, toIntO, pSub, pMul, pDiv, pMod, pPow, pLt, pLe, pGt, pGe, intOp, cT, cDiv, cMod, cPow, pAbs, pInt, pMax2, pMin2, plN, plIx, RPs, RPe, atP, getP, setP, setD, appD, okL, ixStep, eCall, eCallB, apN, fMv, fMvP, bName, bTup, bCons, bNil, wipeD, shd, frz, cIt, itE, eIsi, isiB, argsAt, restD, vsOk, Fl.val, nx, nxE, stp, isScal, updP]
theorem rs_inner {n x c : Nat} {t : T2} (hu : Un n t) (hx : x < n) (hn1 : 1 ≤ n) : ∀ E, E = ([tb false n t, colD n t, .int c, pD n t c, rowD true n (t 0), .int x, rowD false n (t x), .unk] : DP.Env) → match (if (cols n t).all (rsx t c x) = true then none else some D.non) with
    | none => sFor (cIt itL (eV 1)) (bName 7) b1_row_sums E = .nx E
    | some d => ∃ e', sFor (cIt itL (eV 1)) (bName 7) b1_row_sums E = .rt d e' := fun E hE => by
  have lp := forGo_find (b := bName 7) (f := b1_row_sums) (item := fun e : Nat => .int (e : Nat)) (E := E) (h := fun e => if rsx t c x e = true then none else some D.non) (cols n t) (fun e he => by
    subst hE
    have he' := (cols_mem.mp he).1
    have a1 := ix_row (o := false) (f := t x) he'
    have a2 := ix_row (o := true) (f := t 0) he'
    rw [un_some hu hx he] at a1
    rw [un_some hu (by omega) he] at a2
    have a3 := ix_p (t := t) (c := c) hx
    by_cases q : rsx t c x e = true
    · rw [if_pos q]
      left
      have q' : vl t x e = pc t c x + vl t 0 e := by simpa [rsx] using q
      simp [sSeq, sForget, sIf, sSet, sRet, sPass, sCont, sBreak, sRetN, sDrop, sSetIx, sApp, sAsg, lf, eTest, eTru, toBl, eOp2, eV, eC, eSh, toShd, eFz, fFz, eIf, fIf, fTest, fOp2, eAnd, eOr, eNot, eAndV, eOrV, eNotV, eTup, eLst, eNil, eCons, fNil, fCons, fTup, fLst, eCB, fCB, eUn, pNeg, eSl, oNone, oSome, toIntO, pSub, pMul, pDiv, pMod, pPow, pLt, pLe, pGt, pGe, intOp, cT, cDiv, cMod, cPow, pAbs, pInt, pMax2, pMin2, plN, plIx, RPs, RPe, atP, getP, setP, setD, appD, okL, ixStep, eCall, eCallB, apN, fMv, fMvP, bName, bTup, bCons, bNil, wipeD, shd, frz, cIt, itE, eIsi, isiB, argsAt, restD, vsOk, Fl.val, nx, nxE, stp, isScal, updP, b1_row_sums, a1, a2, a3, q']
    · rw [if_neg q]
      have q' : ¬ vl t x e = pc t c x + vl t 0 e := by simpa [rsx] using q
      exact ⟨[tb false n t, colD n t, .int c, pD n t c, rowD true n (t 0), .int x, rowD false n (t x), .int e], by simp [sSeq, sForget, sIf, sSet, sRet, sPass, sCont, sBreak, sRetN, sDrop, sSetIx, sApp, sAsg, lf, eTest, eTru, toBl, eOp2, eV, eC, eSh, toShd, eFz, fFz, eIf, fIf, fTest, fOp2, eAnd, eOr, eNot, eAndV, eOrV, eNotV, eTup, eLst, eNil, eCons, fNil, fCons, fTup, fLst, eCB, fCB, eUn, pNeg, eSl, oNone, oSome, toIntO, pSub, pMul, pDiv, pMod, pPow, pLt, pLe, pGt, pGe, intOp, cT, cDiv, cMod, cPow, pAbs, pInt, pMax2, pMin2, plN, plIx, RPs, RPe, atP, getP, setP, setD, appD, okL, ixStep, eCall, eCallB, apN, fMv, fMvP, bName, bTup, bCons, bNil, wipeD, shd, frz, cIt, itE, eIsi, isiB, argsAt, restD, vsOk, Fl.val, nx, nxE, stp, isScal, updP, b1_row_sums, a1, a2, a3, q']⟩)
  rw [find_all] at lp
  have src : cIt itL (eV 1) E = .ok ((cols n t).map fun e => .int (e : Nat)) := by subst hE; simp [sSeq, sForget, sIf, sSet, sRet, sPass, sCont, sBreak, sRetN, sDrop, sSetIx, sApp, sAsg, lf, eTest, eTru, toBl, eOp2, eV, eC, eSh, toShd, eFz, fFz, eIf, fIf, fTest, fOp2, eAnd, eOr, eNot, eAndV, eOrV, eNotV, eTup, eLst, eNil, eCons, fNil, fCons, fTup, fLst, eCB, fCB, eUn, pNeg, eSl, oNone, oSome, toIntO, pSub, pMul, pDiv, pMod, pPow, pLt, pLe, pGt, pGe, intOp, cT, cDiv, cMod, cPow, pAbs, pInt, pMax2, pMin2, plN, plIx, RPs, RPe, atP, getP, setP, setD, appD, okL, ixStep, eCall, eCallB, apN, fMv, fMvP, bName, bTup, bCons, bNil, wipeD, shd, frz, cIt, itE, eIsi, isiB, argsAt, restD, vsOk, Fl.val, nx, nxE, stp, isScal, updP, colD]
  by_cases q : (cols n t).all (rsx t c x) = true
  · rw [if_pos q] at lp ⊢; exact (sFor_ok src).trans lp
  · rw [if_neg q] at lp ⊢; obtain ⟨e', lp⟩ := lp; exact ⟨e', (sFor_ok src).trans lp⟩
theorem rs_outer {n c : Nat} {t : T2} (hu : Un n t) (hn1 : 1 ≤ n) (hn : n ≤ 6) : ∀ E, E = ([tb false n t, colD n t, .int c, pD n t c, rowD true n (t 0), .unk, .unk, .unk] : DP.Env) → match (if rs n t c = true then none else some D.non) with
    | none => sFor (cItA itE (eCons (eV 0) eNil)) (bTup 2 (bCons (bName 5) (bCons (bName 6) bNil))) b2_row_sums E = .nx E
    | some d => ∃ e', sFor (cItA itE (eCons (eV 0) eNil)) (bTup 2 (bCons (bName 5) (bCons (bName 6) bNil))) b2_row_sums E = .rt d e' := fun E hE => by
  have lp := forGo_find (b := bTup 2 (bCons (bName 5) (bCons (bName 6) bNil))) (f := b2_row_sums) (item := fun x : Nat => .tup [.int (x : Nat), rowD false n (t x)]) (E := E) (h := fun x => if (cols n t).all (rsx t c x) = true then none else some D.non) (List.range n) (fun x hx => by
    subst hE
    have hx' := List.mem_range.mp hx
    have inn := rs_inner (c := c) hu hx' hn1 _ rfl
    have E0 : stp (bTup 2 (bCons (bName 5) (bCons (bName 6) bNil))) b2_row_sums (.tup [.int (x : Nat), rowD false n (t x)]) [tb false n t, colD n t, .int c, pD n t c, rowD true n (t 0), .unk, .unk, .unk] = b2_row_sums [tb false n t, colD n t, .int c, pD n t c, rowD true n (t 0), .int x, rowD false n (t x), .unk] := by simp [sSeq, sForget, sIf, sSet, sRet, sPass, sCont, sBreak, sRetN, sDrop, sSetIx, sApp, sAsg, lf, eTest, eTru, toBl, eOp2, eV, eC, eSh, toShd, eFz, fFz, eIf, fIf, fTest, fOp2, eAnd, eOr, eNot, eAndV, eOrV, eNotV, eTup, eLst, eNil, eCons, fNil, fCons, fTup, fLst, eCB, fCB, eUn, pNeg, eSl, oNone, oSome, toIntO, pSub, pMul, pDiv, pMod, pPow, pLt, pLe, pGt, pGe, intOp, cT, cDiv, cMod, cPow, pAbs, pInt, pMax2, pMin2, plN, plIx, RPs, RPe, atP, getP, setP, setD, appD, okL, ixStep, eCall, eCallB, apN, fMv, fMvP, bName, bTup, bCons, bNil, wipeD, shd, frz, cIt, itE, eIsi, isiB, argsAt, restD, vsOk, Fl.val, nx, nxE, stp, isScal, updP]
    rw [E0]
    by_cases q : (cols n t).all (rsx t c x) = true
    · rw [if_pos q] at inn ⊢
      exact .inl (forget_nx (forget_nx inn))
    · rw [if_neg q] at inn ⊢
      obtain ⟨e', inn⟩ := inn
      exact ⟨e', forget_rt (forget_rt inn)⟩)
  rw [find_all] at lp
  have src : cItA itE (eCons (eV 0) eNil) E = .ok ((List.range n).map fun x => .tup [.int (x : Nat), rowD false n (t x)]) := by subst hE; exact cItA_ok (l := [tb false n t]) (by simp [sSeq, sForget, sIf, sSet, sRet, sPass, sCont, sBreak, sRetN, sDrop, sSetIx, sApp, sAsg, lf, eTest, eTru, toBl, eOp2, eV, eC, eSh, toShd, eFz, fFz, eIf, fIf, fTest, fOp2, eAnd, eOr, eNot, eAndV, eOrV, eNotV, eTup, eLst, eNil, eCons, fNil, fCons, fTup, fLst, eCB, fCB, eUn, pNeg, eSl, oNone, oSome, toIntO, pSub, pMul, pDiv, pMod, pPow, pLt, pLe, pGt, pGe, intOp, cT, cDiv, cMod, cPow, pAbs, pInt, pMax2, pMin2, plN, plIx, RPs, RPe, atP, getP, setP, setD, appD, okL, ixStep, eCall, eCallB, apN, fMv, fMvP, bName, bTup, bCons, bNil, wipeD, shd, frz, cIt, itE, eIsi, isiB, argsAt, restD, vsOk, Fl.val, nx, nxE, stp, isScal, updP]) enum_tb
  unfold rs
  by_cases q : ((List.range n).all fun x => (cols n t).all (rsx t c x)) = true
  · rw [if_pos q] at lp; rw [if_pos (by simpa using q)]; exact (sFor_ok src).trans lp
  · rw [if_neg q] at lp; rw [if_neg (by simpa using q)]; obtain ⟨e', lp⟩ := lp; exact ⟨e', (sFor_ok src).trans lp⟩
theorem mixD_ne (z : Nat × Nat × Nat) : mixD z ≠ .non := fun h => nomatch h
theorem rows_mixed {n : Nat} (hn : n ≤ 6) {t : T2} {z : Nat × Nat × Nat} (h : mixed n t = some z) : (f_row_sums [tb false n t]).dr = .ok .non := by
  refine mkF_val (env0 := [tb false n t, .unk, .unk, .unk, .unk, .unk, .unk, .unk]) rfl ?_
  have ms := mixed_spec hn (t := t)
  rw [h] at ms
  have : sIf (lf (eTest (eOp2 pIsNot (eCall 1 f_mixed_column (eCons (eV 0) eNil)) (eC .non)))) (sRet (lf (eC .non))) sPass [tb false n t, .unk, .unk, .unk, .unk, .unk, .unk, .unk] = .rt .non [tb false n t, .unk, .unk, .unk, .unk, .unk, .unk, .unk] := by
    simp [sSeq, sForget, sIf, sSet, sRet, sPass, sCont, sBreak, sRetN, sDrop, sSetIx, sApp, sAsg, lf, eTest, eTru, toBl, eOp2, eV, eC, eSh, toShd, eFz, fFz, eIf, fIf, fTest, fOp2, eAnd, eOr, eNot, eAndV, eOrV, eNotV, eTup, eLst, eNil, eCons, fNil, fCons, fTup, fLst, eCB, fCB, eUn, pNeg, eSl, oNone, oSome, toIntO, pSub, pMul, pDiv, pMod, pPow, pLt, pLe, pGt, pGe, intOp, cT, cDiv, cMod, cPow, pAbs, pInt, pMax2, pMin2, plN, plIx, RPs, RPe, atP, getP, setP, setD, appD, okL, ixStep, eCall, eCallB, apN, fMv, fMvP, bName, bTup, bCons, bNil, wipeD, shd, frz, cIt, itE, eIsi, isiB, argsAt, restD, vsOk, Fl.val, nx, nxE, stp, isScal, updP, ms, mixD]
  unfold m_row_sums
  rw [seq_rt this]; rfl
theorem list_row {n : Nat} {f : Nat → Option Int} : pList [rowD false n f] = .ok (rowD true n f) := by simp [sSeq, sForget, sIf, sSet, sRet, sPass, sCont, sBreak, sRetN, sDrop, sSetIx, sApp, sAsg, lf, eTest, eTru, toBl, eOp2, eV, eC, eSh, toShd, eFz, fFz, eIf, fIf, fTest, fOp2, eAnd, eOr, eNot, eAndV, eOrV, eNotV, eTup, eLst, eNil, eCons, fNil, fCons, fTup, fLst, eCB, fCB, eUn, pNeg, eSl, oNone, oSome, toIntO, pSub, pMul, pDiv, pMod, pPow, pLt, pLe, pGt, pGe, intOp, cT, cDiv, cMod, cPow, pAbs, pInt, pMax2, pMin2, plN, plIx, RPs, RPe, atP, getP, setP, setD, appD, okL, ixStep, eCall, eCallB, apN, fMv, fMvP, bName, bTup, bCons, bNil, wipeD, shd, frz, cIt, itE, eIsi, isiB, argsAt, restD, vsOk, Fl.val, nx, nxE, stp, isScal, updP, rowD]
def rsD (n : Nat) (t : T2) (c : Nat) : D := if rs n t c = true then .tup [pD n t c, rowD true n (t 0)] else .non
theorem rows_un {n c : Nat} (hn : n ≤ 6) (hn1 : 1 ≤ n) {t : T2} {r : List Nat} (h : mixed n t = none) (hc : cols n t = c :: r) : (f_row_sums [tb false n t]).dr = .ok (rsD n t c) := by
  refine mkF_val (env0 := [tb false n t, .unk, .unk, .unk, .unk, .unk, .unk, .unk]) rfl ?_
  have hu := un_of h hn1
  have ms := mixed_spec hn (t := t)
  rw [h] at ms
  have cm : c ∈ cols n t := by rw [hc]; exact List.mem_cons_self
  have hcn := (cols_mem.mp cm).1
  have nc := numcols_spec hn hn1 (t := t)
  have s1 : sIf (lf (eTest (eOp2 pIsNot (eCall 1 f_mixed_column (eCons (eV 0) eNil)) (eC .non)))) (sRet (lf (eC .non))) sPass [tb false n t, .unk, .unk, .unk, .unk, .unk, .unk, .unk] = .nx [tb false n t, .unk, .unk, .unk, .unk, .unk, .unk, .unk] := by
    simp [sSeq, sForget, sIf, sSet, sRet, sPass, sCont, sBreak, sRetN, sDrop, sSetIx, sApp, sAsg, lf, eTest, eTru, toBl, eOp2, eV, eC, eSh, toShd, eFz, fFz, eIf, fIf, fTest, fOp2, eAnd, eOr, eNot, eAndV, eOrV, eNotV, eTup, eLst, eNil, eCons, fNil, fCons, fTup, fLst, eCB, fCB, eUn, pNeg, eSl, oNone, oSome, toIntO, pSub, pMul, pDiv, pMod, pPow, pLt, pLe, pGt, pGe, intOp, cT, cDiv, cMod, cPow, pAbs, pInt, pMax2, pMin2, plN, plIx, RPs, RPe, atP, getP, setP, setD, appD, okL, ixStep, eCall, eCallB, apN, fMv, fMvP, bName, bTup, bCons, bNil, wipeD, shd, frz, cIt, itE, eIsi, isiB, argsAt, restD, vsOk, Fl.val, nx, nxE, stp, isScal, updP, ms]
  have s2 : sSet 1 (lf (eFz (eCall 1 f_number_columns (eCons (eV 0) eNil)))) [tb false n t, .unk, .unk, .unk, .unk, .unk, .unk, .unk] = .nx [tb false n t, colD n t, .unk, .unk, .unk, .unk, .unk, .unk] := by
    simp [sSeq, sForget, sIf, sSet, sRet, sPass, sCont, sBreak, sRetN, sDrop, sSetIx, sApp, sAsg, lf, eTest, eTru, toBl, eOp2, eV, eC, eSh, toShd, eFz, fFz, eIf, fIf, fTest, fOp2, eAnd, eOr, eNot, eAndV, eOrV, eNotV, eTup, eLst, eNil, eCons, fNil, fCons, fTup, fLst, eCB, fCB, eUn, pNeg, eSl, oNone, oSome, toIntO, pSub, pMul, pDiv, pMod, pPow, pLt, pLe, pGt, pGe, intOp, cT, cDiv, cMod, cPow, pAbs, pInt, pMax2, pMin2, plN, plIx, RPs, RPe, atP, getP, setP, setD, appD, okL, ixStep, eCall, eCallB, apN, fMv, fMvP, bName, bTup, bCons, bNil, wipeD, shd, frz, cIt, itE, eIsi, isiB, argsAt, restD, vsOk, Fl.val, nx, nxE, stp, isScal, updP, nc, colD]
  have i0 : pIx (colD n t) (.int 0) = .ok (.int c) := by unfold colD; rw [hc]; simp [sSeq, sForget, sIf, sSet, sRet, sPass, sCont, sBreak, sRetN, sDrop, sSetIx, sApp, sAsg, lf, eTest, eTru, toBl, eOp2, eV, eC, eSh, toShd, eFz, fFz, eIf, fIf, fTest, fOp2, eAnd, eOr, eNot, eAndV, eOrV, eNotV, eTup, eLst, eNil, eCons, fNil, fCons, fTup, fLst, eCB, fCB, eUn, pNeg, eSl, oNone, oSome, toIntO, pSub, pMul, pDiv, pMod, pPow, pLt, pLe, pGt, pGe, intOp, cT, cDiv, cMod, cPow, pAbs, pInt, pMax2, pMin2, plN, plIx, RPs, RPe, atP, getP, setP, setD, appD, okL, ixStep, eCall, eCallB, apN, fMv, fMvP, bName, bTup, bCons, bNil, wipeD, shd, frz, cIt, itE, eIsi, isiB, argsAt, restD, vsOk, Fl.val, nx, nxE, stp, isScal, updP, atI, ixN]
  have s3 : sSet 2 (lf (eOp2 pIx (eV 1) (eC (.int 0)))) [tb false n t, colD n t, .unk, .unk, .unk, .unk, .unk, .unk] = .nx [tb false n t, colD n t, .int c, .unk, .unk, .unk, .unk, .unk] := by
    simp [sSeq, sForget, sIf, sSet, sRet, sPass, sCont, sBreak, sRetN, sDrop, sSetIx, sApp, sAsg, lf, eTest, eTru, toBl, eOp2, eV, eC, eSh, toShd, eFz, fFz, eIf, fIf, fTest, fOp2, eAnd, eOr, eNot, eAndV, eOrV, eNotV, eTup, eLst, eNil, eCons, fNil, fCons, fTup, fLst, eCB, fCB, eUn, pNeg, eSl, oNone, oSome, toIntO, pSub, pMul, pDiv, pMod, pPow, pLt, pLe, pGt, pGe, intOp, cT, cDiv, cMod, cPow, pAbs, pInt, pMax2, pMin2, plN, plIx, RPs, RPe, atP, getP, setP, setD, appD, okL, ixStep, eCall, eCallB, apN, fMv, fMvP, bName, bTup, bCons, bNil, wipeD, shd, frz, cIt, itE, eIsi, isiB, argsAt, restD, vsOk, Fl.val, nx, nxE, stp, isScal, updP, i0]
  have a0 : pIx (tb false n t) (.int 0) = .ok (rowD false n (t 0)) := ix_tb (x := 0) (by omega)
  have a00 := ix_row (o := false) (f := t 0) hcn
  rw [un_some hu (by omega) cm] at a00
  have s4 : sSet 3 (lf (eLc (cIt itL (eV 0)) (bName 6) eYes (eOp2 pSub (eOp2 pIx (eV 6) (eV 2)) (eOp2 pIx (eOp2 pIx (eV 0) (eC (.int 0))) (eV 2))) [6])) [tb false n t, colD n t, .int c, .unk, .unk, .unk, .unk, .unk] = .nx [tb false n t, colD n t, .int c, pD n t c, .unk, .unk, .unk, .unk] := by
    have e1 : eLc (cIt itL (eV 0)) (bName 6) eYes (eOp2 pSub (eOp2 pIx (eV 6) (eV 2)) (eOp2 pIx (eOp2 pIx (eV 0) (eC (.int 0))) (eV 2))) [6] [tb false n t, colD n t, .int c, .unk, .unk, .unk, .unk, .unk] = .ok (pD n t c) := by
      refine eLc_ok (ds := (List.range n).map fun x => rowD false n (t x)) (by simp [sSeq, sForget, sIf, sSet, sRet, sPass, sCont, sBreak, sRetN, sDrop, sSetIx, sApp, sAsg, lf, eTest, eTru, toBl, eOp2, eV, eC, eSh, toShd, eFz, fFz, eIf, fIf, fTest, fOp2, eAnd, eOr, eNot, eAndV, eOrV, eNotV, eTup, eLst, eNil, eCons, fNil, fCons, fTup, fLst, eCB, fCB, eUn, pNeg, eSl, oNone, oSome, toIntO, pSub, pMul, pDiv, pMod, pPow, pLt, pLe, pGt, pGe, intOp, cT, cDiv, cMod, cPow, pAbs, pInt, pMax2, pMin2, plN, plIx, RPs, RPe, atP, getP, setP, setD, appD, okL, ixStep, eCall, eCallB, apN, fMv, fMvP, bName, bTup, bCons, bNil, wipeD, shd, frz, cIt, itE, eIsi, isiB, argsAt, restD, vsOk, Fl.val, nx, nxE, stp, isScal, updP, itL_tb (o := false)]) (by simp [sSeq, sForget, sIf, sSet, sRet, sPass, sCont, sBreak, sRetN, sDrop, sSetIx, sApp, sAsg, lf, eTest, eTru, toBl, eOp2, eV, eC, eSh, toShd, eFz, fFz, eIf, fIf, fTest, fOp2, eAnd, eOr, eNot, eAndV, eOrV, eNotV, eTup, eLst, eNil, eCons, fNil, fCons, fTup, fLst, eCB, fCB, eUn, pNeg, eSl, oNone, oSome, toIntO, pSub, pMul, pDiv, pMod, pPow, pLt, pLe, pGt, pGe, intOp, cT, cDiv, cMod, cPow, pAbs, pInt, pMax2, pMin2, plN, plIx, RPs, RPe, atP, getP, setP, setD, appD, okL, ixStep, eCall, eCallB, apN, fMv, fMvP, bName, bTup, bCons, bNil, wipeD, shd, frz, cIt, itE, eIsi, isiB, argsAt, restD, vsOk, Fl.val, nx, nxE, stp, isScal, updP]; exact size_ok (by omega)) ?_
      refine lcGo_all _ (fun x hx => ⟨_, rfl, ?_⟩)
      have b1 := ix_row (o := false) (f := t x) hcn
      rw [un_some hu (List.mem_range.mp hx) cm] at b1
      simp [sSeq, sForget, sIf, sSet, sRet, sPass, sCont, sBreak, sRetN, sDrop, sSetIx, sApp, sAsg, lf, eTest, eTru, toBl, eOp2, eV, eC, eSh, toShd, eFz, fFz, eIf, fIf, fTest, fOp2, eAnd, eOr, eNot, eAndV, eOrV, eNotV, eTup, eLst, eNil, eCons, fNil, fCons, fTup, fLst, eCB, fCB, eUn, pNeg, eSl, oNone, oSome, toIntO, pSub, pMul, pDiv, pMod, pPow, pLt, pLe, pGt, pGe, intOp, cT, cDiv, cMod, cPow, pAbs, pInt, pMax2, pMin2, plN, plIx, RPs, RPe, atP, getP, setP, setD, appD, okL, ixStep, eCall, eCallB, apN, fMv, fMvP, bName, bTup, bCons, bNil, wipeD, shd, frz, cIt, itE, eIsi, isiB, argsAt, restD, vsOk, Fl.val, nx, nxE, stp, isScal, updP, a0, a00, b1, pc]
    unfold sSet lf; rw [e1]; rfl
  have s5 : sSet 4 (lf (eCB pList (eCons (eOp2 pIx (eV 0) (eC (.int 0))) eNil))) [tb false n t, colD n t, .int c, pD n t c, .unk, .unk, .unk, .unk] = .nx [tb false n t, colD n t, .int c, pD n t c, rowD true n (t 0), .unk, .unk, .unk] := by
    have : eCons (eOp2 pIx (eV 0) (eC (.int 0))) eNil [tb false n t, colD n t, .int c, pD n t c, .unk, .unk, .unk, .unk] = .ok [rowD false n (t 0)] := by simp [sSeq, sForget, sIf, sSet, sRet, sPass, sCont, sBreak, sRetN, sDrop, sSetIx, sApp, sAsg, lf, eTest, eTru, toBl, eOp2, eV, eC, eSh, toShd, eFz, fFz, eIf, fIf, fTest, fOp2, eAnd, eOr, eNot, eAndV, eOrV, eNotV, eTup, eLst, eNil, eCons, fNil, fCons, fTup, fLst, eCB, fCB, eUn, pNeg, eSl, oNone, oSome, toIntO, pSub, pMul, pDiv, pMod, pPow, pLt, pLe, pGt, pGe, intOp, cT, cDiv, cMod, cPow, pAbs, pInt, pMax2, pMin2, plN, plIx, RPs, RPe, atP, getP, setP, setD, appD, okL, ixStep, eCall, eCallB, apN, fMv, fMvP, bName, bTup, bCons, bNil, wipeD, shd, frz, cIt, itE, eIsi, isiB, argsAt, restD, vsOk, Fl.val, nx, nxE, stp, isScal, updP, a0]
    unfold sSet lf eCB
    rw [this, R.ok_bind, list_row]; rfl
  have lp := rs_outer (c := c) hu hn1 hn _ rfl
  unfold m_row_sums
  refine seqv s1 (seqv s2 (seqv s3 (seqv s4 (seqv s5 ?_))))
  unfold rsD
  by_cases q : rs n t c = true
  · rw [if_pos q] at lp ⊢
    refine seqv (forget_nx lp) ?_
    rfl
  · rw [if_neg q] at lp ⊢
    obtain ⟨e', lp⟩ := lp
    rw [seq_rt (forget_rt lp)]; rfl
/-! ### gaps -/
def gp (t : T2) (s e z y : Nat) : Bool := decide (vl t s e + vl t z y < vl t s y + vl t z e)
def prD (z : Nat × Nat) : D := .tup [.int z.1, .int z.2]
def gf1 (n : Nat) (t : T2) (s e z : Nat) : Option (Nat × Nat) := (cols n t).findSome? fun y => if gp t s e z y = true then some (z, y) else none
def gf (n : Nat) (t : T2) (s e : Nat) : Option (Nat × Nat) := (List.range n).findSome? (gf1 n t s e)
theorem gap_inner {n s e z : Nat} {t : T2} (hu : Un n t) (hs : s < n) (he : e ∈ cols n t) (hz : z < n) : ∀ E, E = ([tb false n t, colD n t, .int s, .int e, rowD false n (t s), .int z, rowD false n (t z), .unk] : DP.Env) → match (gf1 n t s e z).map prD with
    | none => sFor (cIt itL (eV 1)) (bName 7) b1_gap_from E = .nx E
    | some d => ∃ e', sFor (cIt itL (eV 1)) (bName 7) b1_gap_from E = .rt d e' := fun E hE => by
  have lp := forGo_find (b := bName 7) (f := b1_gap_from) (item := fun e : Nat => .int (e : Nat)) (E := E) (h := fun y => (if gp t s e z y = true then some (z, y) else none).map prD) (cols n t) (fun y hy => by
    subst hE
    have hy' := (cols_mem.mp hy).1
    have he' := (cols_mem.mp he).1
    have a1 := ix_row (o := false) (f := t s) he'
    have a2 := ix_row (o := false) (f := t z) hy'
    have a3 := ix_row (o := false) (f := t s) hy'
    have a4 := ix_row (o := false) (f := t z) he'
    rw [un_some hu hs he] at a1
    rw [un_some hu hz hy] at a2
    rw [un_some hu hs hy] at a3
    rw [un_some hu hz he] at a4
    by_cases q : gp t s e z y = true
    · rw [if_pos q]
      have q' : vl t s e + vl t z y < vl t s y + vl t z e := by simpa [gp] using q
      exact ⟨[tb false n t, colD n t, .int s, .int e, rowD false n (t s), .int z, rowD false n (t z), .int y], by simp [sSeq, sForget, sIf, sSet, sRet, sPass, sCont, sBreak, sRetN, sDrop, sSetIx, sApp, sAsg, lf, eTest, eTru, toBl, eOp2, eV, eC, eSh, toShd, eFz, fFz, eIf, fIf, fTest, fOp2, eAnd, eOr, eNot, eAndV, eOrV, eNotV, eTup, eLst, eNil, eCons, fNil, fCons, fTup, fLst, eCB, fCB, eUn, pNeg, eSl, oNone, oSome, toIntO, pSub, pMul, pDiv, pMod, pPow, pLt, pLe, pGt, pGe, intOp, cT, cDiv, cMod, cPow, pAbs, pInt, pMax2, pMin2, plN, plIx, RPs, RPe, atP, getP, setP, setD, appD, okL, ixStep, eCall, eCallB, apN, fMv, fMvP, bName, bTup, bCons, bNil, wipeD, shd, frz, cIt, itE, eIsi, isiB, argsAt, restD, vsOk, Fl.val, nx, nxE, stp, isScal, updP, b1_gap_from, a1, a2, a3, a4, q', prD, PySem.sizeLine]⟩
    · rw [if_neg q]
      left
      have q' : ¬ vl t s e + vl t z y < vl t s y + vl t z e := by simpa [gp] using q
      simp [sSeq, sForget, sIf, sSet, sRet, sPass, sCont, sBreak, sRetN, sDrop, sSetIx, sApp, sAsg, lf, eTest, eTru, toBl, eOp2, eV, eC, eSh, toShd, eFz, fFz, eIf, fIf, fTest, fOp2, eAnd, eOr, eNot, eAndV, eOrV, eNotV, eTup, eLst, eNil, eCons, fNil, fCons, fTup, fLst, eCB, fCB, eUn, pNeg, eSl, oNone, oSome, toIntO, pSub, pMul, pDiv, pMod, pPow, pLt, pLe, pGt, pGe, intOp, cT, cDiv, cMod, cPow, pAbs, pInt, pMax2, pMin2, plN, plIx, RPs, RPe, atP, getP, setP, setD, appD, okL, ixStep, eCall, eCallB, apN, fMv, fMvP, bName, bTup, bCons, bNil, wipeD, shd, frz, cIt, itE, eIsi, isiB, argsAt, restD, vsOk, Fl.val, nx, nxE, stp, isScal, updP, b1_gap_from, a1, a2, a3, a4, q'])
  have src : cIt itL (eV 1) E = .ok ((cols n t).map fun e => .int (e : Nat)) := by subst hE; simp [sSeq, sForget, sIf, sSet, sRet, sPass, sCont, sBreak, sRetN, sDrop, sSetIx, sApp, sAsg, lf, eTest, eTru, toBl, eOp2, eV, eC, eSh, toShd, eFz, fFz, eIf, fIf, fTest, fOp2, eAnd, eOr, eNot, eAndV, eOrV, eNotV, eTup, eLst, eNil, eCons, fNil, fCons, fTup, fLst, eCB, fCB, eUn, pNeg, eSl, oNone, oSome, toIntO, pSub, pMul, pDiv, pMod, pPow, pLt, pLe, pGt, pGe, intOp, cT, cDiv, cMod, cPow, pAbs, pInt, pMax2, pMin2, plN, plIx, RPs, RPe, atP, getP, setP, setD, appD, okL, ixStep, eCall, eCallB, apN, fMv, fMvP, bName, bTup, bCons, bNil, wipeD, shd, frz, cIt, itE, eIsi, isiB, argsAt, restD, vsOk, Fl.val, nx, nxE, stp, isScal, updP, colD]
  rw [findSome_map] at lp
  unfold gf1
  cases q : (cols n t).findSome? fun y => if gp t s e z y = true then some (z, y) else none with
  | none => rw [q] at lp; exact (sFor_ok src).trans lp
  | some w => rw [q] at lp; obtain ⟨e', lp⟩ := lp; exact ⟨e', (sFor_ok src).trans lp⟩
theorem gap_outer {n s e : Nat} {t : T2} (hu : Un n t) (hs : s < n) (he : e ∈ cols n t) : ∀ E, E = ([tb false n t, colD n t, .int s, .int e, rowD false n (t s), .unk, .unk, .unk] : DP.Env) → match (gf n t s e).map prD with
    | none => sFor (cItA itE (eCons (eV 0) eNil)) (bTup 2 (bCons (bName 5) (bCons (bName 6) bNil))) b2_gap_from E = .nx E
    | some d => ∃ e', sFor (cItA itE (eCons (eV 0) eNil)) (bTup 2 (bCons (bName 5) (bCons (bName 6) bNil))) b2_gap_from E = .rt d e' := fun E hE => by
  have lp := forGo_find (b := bTup 2 (bCons (bName 5) (bCons (bName 6) bNil))) (f := b2_gap_from) (item := fun x : Nat => .tup [.int (x : Nat), rowD false n (t x)]) (E := E) (h := fun z => (gf1 n t s e z).map prD) (List.range n) (fun z hz => by
    subst hE
    have hz' := List.mem_range.mp hz
    have inn := gap_inner hu hs he hz' _ rfl
    have E0 : stp (bTup 2 (bCons (bName 5) (bCons (bName 6) bNil))) b2_gap_from (.tup [.int (z : Nat), rowD false n (t z)]) [tb false n t, colD n t, .int s, .int e, rowD false n (t s), .unk, .unk, .unk] = b2_gap_from [tb false n t, colD n t, .int s, .int e, rowD false n (t s), .int z, rowD false n (t z), .unk] := by simp [sSeq, sForget, sIf, sSet, sRet, sPass, sCont, sBreak, sRetN, sDrop, sSetIx, sApp, sAsg, lf, eTest, eTru, toBl, eOp2, eV, eC, eSh, toShd, eFz, fFz, eIf, fIf, fTest, fOp2, eAnd, eOr, eNot, eAndV, eOrV, eNotV, eTup, eLst, eNil, eCons, fNil, fCons, fTup, fLst, eCB, fCB, eUn, pNeg, eSl, oNone, oSome, toIntO, pSub, pMul, pDiv, pMod, pPow, pLt, pLe, pGt, pGe, intOp, cT, cDiv, cMod, cPow, pAbs, pInt, pMax2, pMin2, plN, plIx, RPs, RPe, atP, getP, setP, setD, appD, okL, ixStep, eCall, eCallB, apN, fMv, fMvP, bName, bTup, bCons, bNil, wipeD, shd, frz, cIt, itE, eIsi, isiB, argsAt, restD, vsOk, Fl.val, nx, nxE, stp, isScal, updP]
    rw [E0]
    cases q : gf1 n t s e z with
    | none => rw [q] at inn; exact .inl (forget_nx (forget_nx inn))
    | some w => rw [q] at inn; obtain ⟨e', inn⟩ := inn; exact ⟨e', forget_rt (forget_rt inn)⟩)
  rw [findSome_map] at lp
  have src : cItA itE (eCons (eV 0) eNil) E = .ok ((List.range n).map fun x => .tup [.int (x : Nat), rowD false n (t x)]) := by subst hE; exact cItA_ok (l := [tb false n t]) (by simp [sSeq, sForget, sIf, sSet, sRet, sPass, sCont, sBreak, sRetN, sDrop, sSetIx, sApp, sAsg, lf, eTest, eTru, toBl, eOp2, eV, eC, eSh, toShd, eFz, fFz, eIf, fIf, fTest, fOp2, eAnd, eOr, eNot, eAndV, eOrV, eNotV, eTup, eLst, eNil, eCons, fNil, fCons, fTup, fLst, eCB, fCB, eUn, pNeg, eSl, oNone, oSome, toIntO, pSub, pMul, pDiv, pMod, pPow, pLt, pLe, pGt, pGe, intOp, cT, cDiv, cMod, cPow, pAbs, pInt, pMax2, pMin2, plN, plIx, RPs, RPe, atP, getP, setP, setD, appD, okL, ixStep, eCall, eCallB, apN, fMv, fMvP, bName, bTup, bCons, bNil, wipeD, shd, frz, cIt, itE, eIsi, isiB, argsAt, restD, vsOk, Fl.val, nx, nxE, stp, isScal, updP]) enum_tb
  unfold gf
  cases q : (List.range n).findSome? (gf1 n t s e) with
  | none => rw [q] at lp; exact (sFor_ok src).trans lp
  | some w => rw [q] at lp; obtain ⟨e', lp⟩ := lp; exact ⟨e', (sFor_ok src).trans lp⟩
def optD (o : Option D) : D := match o with
  | none => .non
  | some d => d
theorem gapfrom_spec {n s e : Nat} {t : T2} (hu : Un n t) (hs : s < n) (he : e ∈ cols n t) : (f_gap_from [tb false n t, colD n t, .int s, .int e]).dr = .ok (optD ((gf n t s e).map prD)) := by
  refine mkF_val (env0 := [tb false n t, colD n t, .int s, .int e, .unk, .unk, .unk, .unk]) rfl ?_
  have a0 := ix_tb (o := false) (t := t) hs
  have s1 : sSet 4 (lf (eOp2 pIx (eV 0) (eV 2))) [tb false n t, colD n t, .int s, .int e, .unk, .unk, .unk, .unk] = .nx [tb false n t, colD n t, .int s, .int e, rowD false n (t s), .unk, .unk, .unk] := by
    simp [sSeq, sForget, sIf, sSet, sRet, sPass, sCont, sBreak, sRetN, sDrop, sSetIx, sApp, sAsg, lf, eTest, eTru, toBl, eOp2, eV, eC, eSh, toShd, eFz, fFz, eIf, fIf, fTest, fOp2, eAnd, eOr, eNot, eAndV, eOrV, eNotV, eTup, eLst, eNil, eCons, fNil, fCons, fTup, fLst, eCB, fCB, eUn, pNeg, eSl, oNone, oSome, toIntO, pSub, pMul, pDiv, pMod, pPow, pLt, pLe, pGt, pGe, intOp, cT, cDiv, cMod, cPow, pAbs, pInt, pMax2, pMin2, plN, plIx, RPs, RPe, atP, getP, setP, setD, appD, okL, ixStep, eCall, eCallB, apN, fMv, fMvP, bName, bTup, bCons, bNil, wipeD, shd, frz, cIt, itE, eIsi, isiB, argsAt, restD, vsOk, Fl.val, nx, nxE, stp, isScal, updP, a0]
  have lp := gap_outer hu hs he _ rfl
  unfold m_gap_from
  refine seqv s1 ?_
  cases q : gf n t s e with
  | none => rw [q] at lp; exact seqv (forget_nx lp) rfl
  | some w => rw [q] at lp; obtain ⟨e', lp⟩ := lp; rw [seq_rt (forget_rt lp)]; rfl
def qdD (z : Nat × Nat × Nat × Nat) : D := .tup [.int z.1, .int z.2.1, .int z.2.2.1, .int z.2.2.2]
def lg1 (n : Nat) (t : T2) (s e : Nat) : Option (Nat × Nat × Nat × Nat) := (gf n t s e).map fun z => (s, e, z.1, z.2)
def lg2 (n : Nat) (t : T2) (s : Nat) : Option (Nat × Nat × Nat × Nat) := (cols n t).findSome? (lg1 n t s)
def lg (n : Nat) (t : T2) : Option (Nat × Nat × Nat × Nat) := (List.range n).findSome? (lg2 n t)
end K14


set_option Elab.async false
set_option linter.all false
set_option maxRecDepth 100000
set_option maxHeartbeats 4000000
namespace K14
open DP L2 Evl
theorem least_inner {n s : Nat} {t : T2} (hu : Un n t) (hs : s < n) : ∀ E, E = ([tb false n t, colD n t, .int s, .unk, .unk] : DP.Env) → match (lg2 n t s).map qdD with
    | none => sFor (cIt itL (eV 1)) (bName 3) b1_least_gap E = .nx E
    | some d => ∃ e', sFor (cIt itL (eV 1)) (bName 3) b1_least_gap E = .rt d e' := fun E hE => by
  have lp := forGo_find (b := bName 3) (f := b1_least_gap) (item := fun e : Nat => .int (e : Nat)) (E := E) (h := fun e => (lg1 n t s e).map qdD) (cols n t) (fun e he => by
    subst hE
    have g := gapfrom_spec hu hs he
    have E0 : stp (bName 3) b1_least_gap (.int (e : Nat)) [tb false n t, colD n t, .int s, .unk, .unk] = b1_least_gap [tb false n t, colD n t, .int s, .int e, .unk] := rfl
    rw [E0]
    unfold lg1
    cases q : gf n t s e with
    | none =>
      rw [q] at g
      left
      simp [sSeq, sForget, sIf, sSet, sRet, sPass, sCont, sBreak, sRetN, sDrop, sSetIx, sApp, sAsg, lf, eTest, eTru, toBl, eOp2, eV, eC, eSh, toShd, eFz, fFz, eIf, fIf, fTest, fOp2, eAnd, eOr, eNot, eAndV, eOrV, eNotV, eTup, eLst, eNil, eCons, fNil, fCons, fTup, fLst, eCB, fCB, eUn, pNeg, eSl, oNone, oSome, toIntO, pSub, pMul, pDiv, pMod, pPow, pLt, pLe, pGt, pGe, intOp, cT, cDiv, cMod, cPow, pAbs, pInt, pMax2, pMin2, plN, plIx, RPs, RPe, atP, getP, setP, setD, appD, okL, ixStep, eCall, eCallB, apN, fMv, fMvP, bName, bTup, bCons, bNil, wipeD, shd, frz, cIt, itE, eIsi, isiB, argsAt, restD, vsOk, Fl.val, nx, nxE, stp, isScal, updP, b1_least_gap, g, optD]
    | some w =>
      rw [q] at g
      exact ⟨[tb false n t, colD n t, .int s, .int e, prD w], by simp [sSeq, sForget, sIf, sSet, sRet, sPass, sCont, sBreak, sRetN, sDrop, sSetIx, sApp, sAsg, lf, eTest, eTru, toBl, eOp2, eV, eC, eSh, toShd, eFz, fFz, eIf, fIf, fTest, fOp2, eAnd, eOr, eNot, eAndV, eOrV, eNotV, eTup, eLst, eNil, eCons, fNil, fCons, fTup, fLst, eCB, fCB, eUn, pNeg, eSl, oNone, oSome, toIntO, pSub, pMul, pDiv, pMod, pPow, pLt, pLe, pGt, pGe, intOp, cT, cDiv, cMod, cPow, pAbs, pInt, pMax2, pMin2, plN, plIx, RPs, RPe, atP, getP, setP, setD, appD, okL, ixStep, eCall, eCallB, apN, fMv, fMvP, bName, bTup, bCons, bNil, wipeD, shd, frz, cIt, itE, eIsi, isiB, argsAt, restD, vsOk, Fl.val, nx, nxE, stp, isScal, updP, b1_least_gap, g, optD, prD, qdD, atI, ixN, PySem.sizeLine]⟩)
  have src : cIt itL (eV 1) E = .ok ((cols n t).map fun e => .int (e : Nat)) := by subst hE; simp [sSeq, sForget, sIf, sSet, sRet, sPass, sCont, sBreak, sRetN, sDrop, sSetIx, sApp, sAsg, lf, eTest, eTru, toBl, eOp2, eV, eC, eSh, toShd, eFz, fFz, eIf, fIf, fTest, fOp2, eAnd, eOr, eNot, eAndV, eOrV, eNotV, eTup, eLst, eNil, eCons, fNil, fCons, fTup, fLst, eCB, fCB, eUn, pNeg, eSl, oNone, oSome, toIntO, pSub, pMul, pDiv, pMod, pPow, pLt, pLe, pGt, pGe, intOp, cT, cDiv, cMod, cPow, pAbs, pInt, pMax2, pMin2, plN, plIx, RPs, RPe, atP, getP, setP, setD, appD, okL, ixStep, eCall, eCallB, apN, fMv, fMvP, bName, bTup, bCons, bNil, wipeD, shd, frz, cIt, itE, eIsi, isiB, argsAt, restD, vsOk, Fl.val, nx, nxE, stp, isScal, updP, colD]
  rw [findSome_map] at lp
  unfold lg2
  cases q : (cols n t).findSome? (lg1 n t s) with
  | none => rw [q] at lp; exact (sFor_ok src).trans lp
  | some w => rw [q] at lp; obtain ⟨e', lp⟩ := lp; exact ⟨e', (sFor_ok src).trans lp⟩
theorem least_spec {n : Nat} {t : T2} (hu : Un n t) (hn : n ≤ 6) (hn1 : 1 ≤ n) : (f_least_gap [tb false n t]).dr = .ok (optD ((lg n t).map qdD)) := by
  refine mkF_val (env0 := [tb false n t, .unk, .unk, .unk, .unk]) rfl ?_
  have nc := numcols_spec hn hn1 (t := t)
  have s1 : sSet 1 (lf (eFz (eCall 1 f_number_columns (eCons (eV 0) eNil)))) [tb false n t, .unk, .unk, .unk, .unk] = .nx [tb false n t, colD n t, .unk, .unk, .unk] := by
    simp [sSeq, sForget, sIf, sSet, sRet, sPass, sCont, sBreak, sRetN, sDrop, sSetIx, sApp, sAsg, lf, eTest, eTru, toBl, eOp2, eV, eC, eSh, toShd, eFz, fFz, eIf, fIf, fTest, fOp2, eAnd, eOr, eNot, eAndV, eOrV, eNotV, eTup, eLst, eNil, eCons, fNil, fCons, fTup, fLst, eCB, fCB, eUn, pNeg, eSl, oNone, oSome, toIntO, pSub, pMul, pDiv, pMod, pPow, pLt, pLe, pGt, pGe, intOp, cT, cDiv, cMod, cPow, pAbs, pInt, pMax2, pMin2, plN, plIx, RPs, RPe, atP, getP, setP, setD, appD, okL, ixStep, eCall, eCallB, apN, fMv, fMvP, bName, bTup, bCons, bNil, wipeD, shd, frz, cIt, itE, eIsi, isiB, argsAt, restD, vsOk, Fl.val, nx, nxE, stp, isScal, updP, nc, colD]
  have lp := forGo_find (b := bName 2) (f := b2_least_gap) (item := fun e : Nat => .int (e : Nat)) (E := [tb false n t, colD n t, .unk, .unk, .unk]) (h := fun s => (lg2 n t s).map qdD) (List.range n) (fun s hs => by
    have inn := least_inner hu (List.mem_range.mp hs) _ rfl
    have E0 : stp (bName 2) b2_least_gap (.int (s : Nat)) [tb false n t, colD n t, .unk, .unk, .unk] = b2_least_gap [tb false n t, colD n t, .int s, .unk, .unk] := rfl
    rw [E0]
    cases q : lg2 n t s with
    | none => rw [q] at inn; exact .inl (forget_nx (forget_nx inn))
    | some w => rw [q] at inn; obtain ⟨e', inn⟩ := inn; exact ⟨e', forget_rt (forget_rt inn)⟩)
  have src : cItA itR1 (eCons (eCB pLen (eCons (eV 0) eNil)) eNil) [tb false n t, colD n t, .unk, .unk, .unk] = .ok ((List.range n).map fun i => .int (i : Nat)) := rng1 (n := n) (by simp [sSeq, sForget, sIf, sSet, sRet, sPass, sCont, sBreak, sRetN, sDrop, sSetIx, sApp, sAsg, lf, eTest, eTru, toBl, eOp2, eV, eC, eSh, toShd, eFz, fFz, eIf, fIf, fTest, fOp2, eAnd, eOr, eNot, eAndV, eOrV, eNotV, eTup, eLst, eNil, eCons, fNil, fCons, fTup, fLst, eCB, fCB, eUn, pNeg, eSl, oNone, oSome, toIntO, pSub, pMul, pDiv, pMod, pPow, pLt, pLe, pGt, pGe, intOp, cT, cDiv, cMod, cPow, pAbs, pInt, pMax2, pMin2, plN, plIx, RPs, RPe, atP, getP, setP, setD, appD, okL, ixStep, eCall, eCallB, apN, fMv, fMvP, bName, bTup, bCons, bNil, wipeD, shd, frz, cIt, itE, eIsi, isiB, argsAt, restD, vsOk, Fl.val, nx, nxE, stp, isScal, updP]) (by omega)
  rw [findSome_map] at lp
  unfold m_least_gap lg
  refine seqv s1 ?_
  cases q : (List.range n).findSome? (lg2 n t) with
  | none => rw [q] at lp; exact seqv (forget_nx ((sFor_ok src).trans lp)) rfl
  | some w => rw [q] at lp; obtain ⟨e', lp⟩ := lp; rw [seq_rt (forget_rt ((sFor_ok src).trans lp))]; rfl
/-! ### wall_of -/
theorem pIsNot_mix (z : Nat × Nat × Nat) : pIsNot (mixD z) .non = .ok (.bl true) := rfl
theorem wall_mixed {n : Nat} (hn : n ≤ 6) {t : T2} {z : Nat × Nat × Nat} (h : mixed n t = some z) : (f_wall_of [tb false n t]).dr = .ok (.tup [.str "column", .int z.1, .int z.2.1, .int z.2.2]) := by
  refine mkF_val (env0 := [tb false n t, .unk, .unk, .unk]) rfl ?_
  have r := rows_mixed hn h
  have ms := mixed_spec hn (t := t)
  rw [h] at ms
  unfold m_wall_of
  refine seqv (e := [tb false n t, .non, .unk, .unk]) (by simp [sSeq, sForget, sIf, sSet, sRet, sPass, sCont, sBreak, sRetN, sDrop, sSetIx, sApp, sAsg, lf, eTest, eTru, toBl, eOp2, eV, eC, eSh, toShd, eFz, fFz, eIf, fIf, fTest, fOp2, eAnd, eOr, eNot, eAndV, eOrV, eNotV, eTup, eLst, eNil, eCons, fNil, fCons, fTup, fLst, eCB, fCB, eUn, pNeg, eSl, oNone, oSome, toIntO, pSub, pMul, pDiv, pMod, pPow, pLt, pLe, pGt, pGe, intOp, cT, cDiv, cMod, cPow, pAbs, pInt, pMax2, pMin2, plN, plIx, RPs, RPe, atP, getP, setP, setD, appD, okL, ixStep, eCall, eCallB, apN, fMv, fMvP, bName, bTup, bCons, bNil, wipeD, shd, frz, cIt, itE, eIsi, isiB, argsAt, restD, vsOk, Fl.val, nx, nxE, stp, isScal, updP, r]) (seqv (e := [tb false n t, .non, .unk, .unk]) (by simp [sSeq, sForget, sIf, sSet, sRet, sPass, sCont, sBreak, sRetN, sDrop, sSetIx, sApp, sAsg, lf, eTest, eTru, toBl, eOp2, eV, eC, eSh, toShd, eFz, fFz, eIf, fIf, fTest, fOp2, eAnd, eOr, eNot, eAndV, eOrV, eNotV, eTup, eLst, eNil, eCons, fNil, fCons, fTup, fLst, eCB, fCB, eUn, pNeg, eSl, oNone, oSome, toIntO, pSub, pMul, pDiv, pMod, pPow, pLt, pLe, pGt, pGe, intOp, cT, cDiv, cMod, cPow, pAbs, pInt, pMax2, pMin2, plN, plIx, RPs, RPe, atP, getP, setP, setD, appD, okL, ixStep, eCall, eCallB, apN, fMv, fMvP, bName, bTup, bCons, bNil, wipeD, shd, frz, cIt, itE, eIsi, isiB, argsAt, restD, vsOk, Fl.val, nx, nxE, stp, isScal, updP]) (seqv (e := [tb false n t, .non, mixD z, .unk]) (by simp [sSeq, sForget, sIf, sSet, sRet, sPass, sCont, sBreak, sRetN, sDrop, sSetIx, sApp, sAsg, lf, eTest, eTru, toBl, eOp2, eV, eC, eSh, toShd, eFz, fFz, eIf, fIf, fTest, fOp2, eAnd, eOr, eNot, eAndV, eOrV, eNotV, eTup, eLst, eNil, eCons, fNil, fCons, fTup, fLst, eCB, fCB, eUn, pNeg, eSl, oNone, oSome, toIntO, pSub, pMul, pDiv, pMod, pPow, pLt, pLe, pGt, pGe, intOp, cT, cDiv, cMod, cPow, pAbs, pInt, pMax2, pMin2, plN, plIx, RPs, RPe, atP, getP, setP, setD, appD, okL, ixStep, eCall, eCallB, apN, fMv, fMvP, bName, bTup, bCons, bNil, wipeD, shd, frz, cIt, itE, eIsi, isiB, argsAt, restD, vsOk, Fl.val, nx, nxE, stp, isScal, updP, ms, mixD]) ?_))
  have : sIf (lf (eTest (eOp2 pIsNot (eV 2) (eC .non)))) (sRet (lf (eTup (eCons (eC (.str "column")) (eCons (eOp2 pIx (eV 2) (eC (.int 0))) (eCons (eOp2 pIx (eV 2) (eC (.int 1))) (eCons (eOp2 pIx (eV 2) (eC (.int 2))) eNil))))))) sPass [tb false n t, .non, mixD z, .unk] = .rt (.tup [.str "column", .int z.1, .int z.2.1, .int z.2.2]) [tb false n t, .non, mixD z, .unk] := by
    simp [sSeq, sForget, sIf, sSet, sRet, sPass, sCont, sBreak, sRetN, sDrop, sSetIx, sApp, sAsg, lf, eTest, eTru, toBl, eOp2, eV, eC, eSh, toShd, eFz, fFz, eIf, fIf, fTest, fOp2, eAnd, eOr, eNot, eAndV, eOrV, eNotV, eTup, eLst, eNil, eCons, fNil, fCons, fTup, fLst, eCB, fCB, eUn, pNeg, eSl, oNone, oSome, toIntO, pSub, pMul, pDiv, pMod, pPow, pLt, pLe, pGt, pGe, intOp, cT, cDiv, cMod, cPow, pAbs, pInt, pMax2, pMin2, plN, plIx, RPs, RPe, atP, getP, setP, setD, appD, okL, ixStep, eCall, eCallB, apN, fMv, fMvP, bName, bTup, bCons, bNil, wipeD, shd, frz, cIt, itE, eIsi, isiB, argsAt, restD, vsOk, Fl.val, nx, nxE, stp, isScal, updP, mixD, atI, ixN, PySem.sizeLine]
  rw [seq_rt this]; rfl
theorem wall_wall {n c : Nat} (hn : n ≤ 6) (hn1 : 1 ≤ n) {t : T2} {r : List Nat} (h : mixed n t = none) (hc : cols n t = c :: r) (hr : rs n t c = true) : (f_wall_of [tb false n t]).dr = .ok (.tup [.str "wall", pD n t c, rowD true n (t 0)]) := by
  refine mkF_val (env0 := [tb false n t, .unk, .unk, .unk]) rfl ?_
  have ru := rows_un hn hn1 h hc
  unfold rsD at ru
  rw [if_pos hr] at ru
  unfold m_wall_of
  refine seqv (e := [tb false n t, .tup [pD n t c, rowD true n (t 0)], .unk, .unk]) (by simp [sSeq, sForget, sIf, sSet, sRet, sPass, sCont, sBreak, sRetN, sDrop, sSetIx, sApp, sAsg, lf, eTest, eTru, toBl, eOp2, eV, eC, eSh, toShd, eFz, fFz, eIf, fIf, fTest, fOp2, eAnd, eOr, eNot, eAndV, eOrV, eNotV, eTup, eLst, eNil, eCons, fNil, fCons, fTup, fLst, eCB, fCB, eUn, pNeg, eSl, oNone, oSome, toIntO, pSub, pMul, pDiv, pMod, pPow, pLt, pLe, pGt, pGe, intOp, cT, cDiv, cMod, cPow, pAbs, pInt, pMax2, pMin2, plN, plIx, RPs, RPe, atP, getP, setP, setD, appD, okL, ixStep, eCall, eCallB, apN, fMv, fMvP, bName, bTup, bCons, bNil, wipeD, shd, frz, cIt, itE, eIsi, isiB, argsAt, restD, vsOk, Fl.val, nx, nxE, stp, isScal, updP, ru]) ?_
  have : sIf (lf (eTest (eOp2 pIsNot (eP 1) (eC .non)))) (sRet (fTup (fCons (lf (eC (.str "wall"))) (fCons (fMvP 1 (plIx 1 (plN 1) (eC (.int 0)))) (fCons (fMvP 1 (plIx 1 (plN 1) (eC (.int 1)))) fNil))))) sPass [tb false n t, .tup [pD n t c, rowD true n (t 0)], .unk, .unk] = .rt (.tup [.str "wall", pD n t c, rowD true n (t 0)]) [tb false n t, .tup [.unk, .unk], .unk, .unk] := by
    simp [sSeq, sForget, sIf, sSet, sRet, sPass, sCont, sBreak, sRetN, sDrop, sSetIx, sApp, sAsg, lf, eTest, eTru, toBl, eOp2, eV, eC, eSh, toShd, eFz, fFz, eIf, fIf, fTest, fOp2, eAnd, eOr, eNot, eAndV, eOrV, eNotV, eTup, eLst, eNil, eCons, fNil, fCons, fTup, fLst, eCB, fCB, eUn, pNeg, eSl, oNone, oSome, toIntO, pSub, pMul, pDiv, pMod, pPow, pLt, pLe, pGt, pGe, intOp, cT, cDiv, cMod, cPow, pAbs, pInt, pMax2, pMin2, plN, plIx, RPs, RPe, atP, getP, setP, setD, appD, okL, ixStep, eCall, eCallB, apN, fMv, fMvP, bName, bTup, bCons, bNil, wipeD, shd, frz, cIt, itE, eIsi, isiB, argsAt, restD, vsOk, Fl.val, nx, nxE, stp, isScal, updP, pD, rowD, ixN, PySem.sizeLine]
  rw [seq_rt this]; rfl
theorem wall_gap {n c : Nat} (hn : n ≤ 6) (hn1 : 1 ≤ n) {t : T2} {r : List Nat} {z : Nat × Nat × Nat × Nat} (h : mixed n t = none) (hc : cols n t = c :: r) (hr : rs n t c = false) (hg : lg n t = some z) : (f_wall_of [tb false n t]).dr = .ok (.tup [.str "gap", .int z.1, .int z.2.1, .int z.2.2.1, .int z.2.2.2]) := by
  refine mkF_val (env0 := [tb false n t, .unk, .unk, .unk]) rfl ?_
  have ru := rows_un hn hn1 h hc
  unfold rsD at ru
  rw [hr, if_neg Bool.false_ne_true] at ru
  have ms := mixed_spec hn (t := t)
  rw [h] at ms
  have lgs := least_spec (un_of h hn1) hn hn1
  rw [hg] at lgs
  unfold m_wall_of
  refine seqv (e := [tb false n t, .non, .unk, .unk]) (by simp [sSeq, sForget, sIf, sSet, sRet, sPass, sCont, sBreak, sRetN, sDrop, sSetIx, sApp, sAsg, lf, eTest, eTru, toBl, eOp2, eV, eC, eSh, toShd, eFz, fFz, eIf, fIf, fTest, fOp2, eAnd, eOr, eNot, eAndV, eOrV, eNotV, eTup, eLst, eNil, eCons, fNil, fCons, fTup, fLst, eCB, fCB, eUn, pNeg, eSl, oNone, oSome, toIntO, pSub, pMul, pDiv, pMod, pPow, pLt, pLe, pGt, pGe, intOp, cT, cDiv, cMod, cPow, pAbs, pInt, pMax2, pMin2, plN, plIx, RPs, RPe, atP, getP, setP, setD, appD, okL, ixStep, eCall, eCallB, apN, fMv, fMvP, bName, bTup, bCons, bNil, wipeD, shd, frz, cIt, itE, eIsi, isiB, argsAt, restD, vsOk, Fl.val, nx, nxE, stp, isScal, updP, ru]) (seqv (e := [tb false n t, .non, .unk, .unk]) (by simp [sSeq, sForget, sIf, sSet, sRet, sPass, sCont, sBreak, sRetN, sDrop, sSetIx, sApp, sAsg, lf, eTest, eTru, toBl, eOp2, eV, eC, eSh, toShd, eFz, fFz, eIf, fIf, fTest, fOp2, eAnd, eOr, eNot, eAndV, eOrV, eNotV, eTup, eLst, eNil, eCons, fNil, fCons, fTup, fLst, eCB, fCB, eUn, pNeg, eSl, oNone, oSome, toIntO, pSub, pMul, pDiv, pMod, pPow, pLt, pLe, pGt, pGe, intOp, cT, cDiv, cMod, cPow, pAbs, pInt, pMax2, pMin2, plN, plIx, RPs, RPe, atP, getP, setP, setD, appD, okL, ixStep, eCall, eCallB, apN, fMv, fMvP, bName, bTup, bCons, bNil, wipeD, shd, frz, cIt, itE, eIsi, isiB, argsAt, restD, vsOk, Fl.val, nx, nxE, stp, isScal, updP]) (seqv (e := [tb false n t, .non, .non, .unk]) (by simp [sSeq, sForget, sIf, sSet, sRet, sPass, sCont, sBreak, sRetN, sDrop, sSetIx, sApp, sAsg, lf, eTest, eTru, toBl, eOp2, eV, eC, eSh, toShd, eFz, fFz, eIf, fIf, fTest, fOp2, eAnd, eOr, eNot, eAndV, eOrV, eNotV, eTup, eLst, eNil, eCons, fNil, fCons, fTup, fLst, eCB, fCB, eUn, pNeg, eSl, oNone, oSome, toIntO, pSub, pMul, pDiv, pMod, pPow, pLt, pLe, pGt, pGe, intOp, cT, cDiv, cMod, cPow, pAbs, pInt, pMax2, pMin2, plN, plIx, RPs, RPe, atP, getP, setP, setD, appD, okL, ixStep, eCall, eCallB, apN, fMv, fMvP, bName, bTup, bCons, bNil, wipeD, shd, frz, cIt, itE, eIsi, isiB, argsAt, restD, vsOk, Fl.val, nx, nxE, stp, isScal, updP, ms]) (seqv (e := [tb false n t, .non, .non, .unk]) (by simp [sSeq, sForget, sIf, sSet, sRet, sPass, sCont, sBreak, sRetN, sDrop, sSetIx, sApp, sAsg, lf, eTest, eTru, toBl, eOp2, eV, eC, eSh, toShd, eFz, fFz, eIf, fIf, fTest, fOp2, eAnd, eOr, eNot, eAndV, eOrV, eNotV, eTup, eLst, eNil, eCons, fNil, fCons, fTup, fLst, eCB, fCB, eUn, pNeg, eSl, oNone, oSome, toIntO, pSub, pMul, pDiv, pMod, pPow, pLt, pLe, pGt, pGe, intOp, cT, cDiv, cMod, cPow, pAbs, pInt, pMax2, pMin2, plN, plIx, RPs, RPe, atP, getP, setP, setD, appD, okL, ixStep, eCall, eCallB, apN, fMv, fMvP, bName, bTup, bCons, bNil, wipeD, shd, frz, cIt, itE, eIsi, isiB, argsAt, restD, vsOk, Fl.val, nx, nxE, stp, isScal, updP]) (seqv (e := [tb false n t, .non, .non, qdD z]) (by simp [sSeq, sForget, sIf, sSet, sRet, sPass, sCont, sBreak, sRetN, sDrop, sSetIx, sApp, sAsg, lf, eTest, eTru, toBl, eOp2, eV, eC, eSh, toShd, eFz, fFz, eIf, fIf, fTest, fOp2, eAnd, eOr, eNot, eAndV, eOrV, eNotV, eTup, eLst, eNil, eCons, fNil, fCons, fTup, fLst, eCB, fCB, eUn, pNeg, eSl, oNone, oSome, toIntO, pSub, pMul, pDiv, pMod, pPow, pLt, pLe, pGt, pGe, intOp, cT, cDiv, cMod, cPow, pAbs, pInt, pMax2, pMin2, plN, plIx, RPs, RPe, atP, getP, setP, setD, appD, okL, ixStep, eCall, eCallB, apN, fMv, fMvP, bName, bTup, bCons, bNil, wipeD, shd, frz, cIt, itE, eIsi, isiB, argsAt, restD, vsOk, Fl.val, nx, nxE, stp, isScal, updP, lgs, optD, qdD]) ?_))))
  simp [sSeq, sForget, sIf, sSet, sRet, sPass, sCont, sBreak, sRetN, sDrop, sSetIx, sApp, sAsg, lf, eTest, eTru, toBl, eOp2, eV, eC, eSh, toShd, eFz, fFz, eIf, fIf, fTest, fOp2, eAnd, eOr, eNot, eAndV, eOrV, eNotV, eTup, eLst, eNil, eCons, fNil, fCons, fTup, fLst, eCB, fCB, eUn, pNeg, eSl, oNone, oSome, toIntO, pSub, pMul, pDiv, pMod, pPow, pLt, pLe, pGt, pGe, intOp, cT, cDiv, cMod, cPow, pAbs, pInt, pMax2, pMin2, plN, plIx, RPs, RPe, atP, getP, setP, setD, appD, okL, ixStep, eCall, eCallB, apN, fMv, fMvP, bName, bTup, bCons, bNil, wipeD, shd, frz, cIt, itE, eIsi, isiB, argsAt, restD, vsOk, Fl.val, nx, nxE, stp, isScal, updP, qdD, atI, ixN, PySem.sizeLine]
end K14


set_option Elab.async false
set_option linter.all false
set_option maxRecDepth 100000
set_option maxHeartbeats 4000000
namespace K14
open DP L2 Evl
def mx (a b : Int) : Int := if b > a then b else a
theorem macts_fold {α : Type} {F : Int → α → Int} {S : α → Int → Prop} : ∀ (l : List α), (∀ x ∈ l, ∀ a, a ≤ F a x ∧ (∀ g, S x g → g ≤ F a x) ∧ (F a x = a ∨ S x (F a x))) →
    ∀ a, a ≤ l.foldl F a ∧ (∀ g, (∃ x, x ∈ l ∧ S x g) → g ≤ l.foldl F a) ∧ (l.foldl F a = a ∨ ∃ x, x ∈ l ∧ S x (l.foldl F a))
  | [], _, a => ⟨Int.le_refl _, fun g ⟨x, hx, _⟩ => (nomatch hx), .inl rfl⟩
  | y :: l, h, a => by
    obtain ⟨a1, a2, a3⟩ := h y List.mem_cons_self a
    obtain ⟨b1, b2, b3⟩ := macts_fold l (fun x hx => h x (List.mem_cons_of_mem _ hx)) (F a y)
    rw [List.foldl_cons]
    refine ⟨Int.le_trans a1 b1, fun g ⟨x, hx, hs⟩ => ?_, ?_⟩
    · rcases List.mem_cons.mp hx with rfl | hx
      · exact Int.le_trans (a2 g hs) b1
      · exact b2 g ⟨x, hx, hs⟩
    · rcases b3 with b3 | ⟨x, hx, b3⟩
      · rw [b3]
        rcases a3 with a3 | a3
        · exact .inl a3
        · exact .inr ⟨y, List.mem_cons_self, a3⟩
      · exact .inr ⟨x, List.mem_cons_of_mem _ hx, b3⟩
def df (t : T2) (x z e : Nat) : Int := vl t x e - vl t z e
def gl (n : Nat) (t : T2) (x z : Nat) : List Int := (cols n t).map fun e => df t x z e
def wd (n : Nat) (t : T2) (x z : Nat) : Int := maxI (gl n t x z) - minI (gl n t x z)
theorem maxL_ints {o : Bool} {l : List Int} (h : l ≠ []) : pMaxL [.con o .lst (l.map D.int)] = .ok (.int (maxI l)) := by
  have e : (listOf (.con o .lst (l.map D.int))).bind intsOf = some l := intsOf_map l
  simp only [pMaxL, e]
  rw [if_pos (List.length_pos_iff.mpr h)]
theorem minL_ints {o : Bool} {l : List Int} (h : l ≠ []) : pMinL [.con o .lst (l.map D.int)] = .ok (.int (minI l)) := by
  have e : (listOf (.con o .lst (l.map D.int))).bind intsOf = some l := intsOf_map l
  simp only [pMinL, e]
  rw [if_pos (List.length_pos_iff.mpr h)]
theorem slice_tb {n x : Nat} {t : T2} (h : x ≤ n) : pSl (tb false n t) none (some (x : Int)) = .ok (.own ((List.range x).map fun z => rowD false n (t z))) := by
  have e : pSl (tb false n t) none (some (x : Int)) = if shds ((List.range n).map fun s => rowD false n (t s)) = true then .ok (.own (cutD ((List.range n).map fun s => rowD false n (t s)) none (some (x : Int)))) else .stk := rfl
  rw [e, if_pos (by rw [shds_all]; simp [sSeq, sForget, sIf, sSet, sRet, sPass, sCont, sBreak, sRetN, sDrop, sSetIx, sApp, sAsg, lf, eTest, eTru, toBl, eOp2, eV, eC, eSh, toShd, eFz, fFz, eIf, fIf, fTest, fOp2, eAnd, eOr, eNot, eAndV, eOrV, eNotV, eTup, eLst, eNil, eCons, fNil, fCons, fTup, fLst, eCB, fCB, eUn, pNeg, eSl, oNone, oSome, toIntO, pSub, pMul, pDiv, pMod, pPow, pLt, pLe, pGt, pGe, intOp, cT, cDiv, cMod, cPow, pAbs, pInt, pMax2, pMin2, plN, plIx, RPs, RPe, atP, getP, setP, setD, appD, okL, ixStep, eCall, eCallB, apN, fMv, fMvP, bName, bTup, bCons, bNil, wipeD, shd, frz, cIt, itE, eIsi, isiB, argsAt, restD, vsOk, Fl.val, nx, nxE, stp, isScal, updP, List.all_map, Function.comp_def])]
  unfold cutD
  rw [List.length_map, List.length_range, HT.sIx_none, HT.sIx_nat]
  congr 2
  refine List.ext_getElem? fun i => ?_
  rw [List.drop_zero, Nat.sub_zero, List.getElem?_take]
  by_cases hi : i < x
  · have : i < n := by omega
    have : i < min x n := by omega
    simp [sSeq, sForget, sIf, sSet, sRet, sPass, sCont, sBreak, sRetN, sDrop, sSetIx, sApp, sAsg, lf, eTest, eTru, toBl, eOp2, eV, eC, eSh, toShd, eFz, fFz, eIf, fIf, fTest, fOp2, eAnd, eOr, eNot, eAndV, eOrV, eNotV, eTup, eLst, eNil, eCons, fNil, fCons, fTup, fLst, eCB, fCB, eUn, pNeg, eSl, oNone, oSome, toIntO, pSub, pMul, pDiv, pMod, pPow, pLt, pLe, pGt, pGe, intOp, cT, cDiv, cMod, cPow, pAbs, pInt, pMax2, pMin2, plN, plIx, RPs, RPe, atP, getP, setP, setD, appD, okL, ixStep, eCall, eCallB, apN, fMv, fMvP, bName, bTup, bCons, bNil, wipeD, shd, frz, cIt, itE, eIsi, isiB, argsAt, restD, vsOk, Fl.val, nx, nxE, stp, isScal, updP, *]
  · have : ¬ i < min x n := by omega
    simp [sSeq, sForget, sIf, sSet, sRet, sPass, sCont, sBreak, sRetN, sDrop, sSetIx, sApp, sAsg, lf, eTest, eTru, toBl, eOp2, eV, eC, eSh, toShd, eFz, fFz, eIf, fIf, fTest, fOp2, eAnd, eOr, eNot, eAndV, eOrV, eNotV, eTup, eLst, eNil, eCons, fNil, fCons, fTup, fLst, eCB, fCB, eUn, pNeg, eSl, oNone, oSome, toIntO, pSub, pMul, pDiv, pMod, pPow, pLt, pLe, pGt, pGe, intOp, cT, cDiv, cMod, cPow, pAbs, pInt, pMax2, pMin2, plN, plIx, RPs, RPe, atP, getP, setP, setD, appD, okL, ixStep, eCall, eCallB, apN, fMv, fMvP, bName, bTup, bCons, bNil, wipeD, shd, frz, cIt, itE, eIsi, isiB, argsAt, restD, vsOk, Fl.val, nx, nxE, stp, isScal, updP, *]
def ev (n : Nat) (t : T2) (a : Int) : DP.Env := [tb false n t, colD n t, .int a, .unk, .unk, .unk, .unk, .unk]
theorem spread_step {n x z : Nat} {t : T2} {a : Int} (hu : Un n t) (hx : x < n) (hz : z < n) (hc : cols n t ≠ []) (hn : n ≤ 6) : b1_spread_of [tb false n t, colD n t, .int a, .int x, rowD false n (t x), rowD false n (t z), .unk, .unk] = .nx [tb false n t, colD n t, .int (mx a (wd n t x z)), .int x, rowD false n (t x), .unk, .unk, .unk] := by
  have e1 : eLc (cIt itL (eV 1)) (bName 7) eYes (eOp2 pSub (eOp2 pIx (eV 4) (eV 7)) (eOp2 pIx (eV 5) (eV 7))) [7] [tb false n t, colD n t, .int a, .int x, rowD false n (t x), rowD false n (t z), .unk, .unk] = .ok (.own ((gl n t x z).map D.int)) := by
    have := eLc_ok (src := cIt itL (eV 1)) (c := eYes) (el := eOp2 pSub (eOp2 pIx (eV 4) (eV 7)) (eOp2 pIx (eV 5) (eV 7))) (g := bName 7) (vs := [7]) (env := [tb false n t, colD n t, .int a, .int x, rowD false n (t x), rowD false n (t z), .unk, .unk]) (ds := (cols n t).map fun e => .int (e : Nat)) (by simp [sSeq, sForget, sIf, sSet, sRet, sPass, sCont, sBreak, sRetN, sDrop, sSetIx, sApp, sAsg, lf, eTest, eTru, toBl, eOp2, eV, eC, eSh, toShd, eFz, fFz, eIf, fIf, fTest, fOp2, eAnd, eOr, eNot, eAndV, eOrV, eNotV, eTup, eLst, eNil, eCons, fNil, fCons, fTup, fLst, eCB, fCB, eUn, pNeg, eSl, oNone, oSome, toIntO, pSub, pMul, pDiv, pMod, pPow, pLt, pLe, pGt, pGe, intOp, cT, cDiv, cMod, cPow, pAbs, pInt, pMax2, pMin2, plN, plIx, RPs, RPe, atP, getP, setP, setD, appD, okL, ixStep, eCall, eCallB, apN, fMv, fMvP, bName, bTup, bCons, bNil, wipeD, shd, frz, cIt, itE, eIsi, isiB, argsAt, restD, vsOk, Fl.val, nx, nxE, stp, isScal, updP, colD]) (by have := cols_len (n := n) (t := t); simp [sSeq, sForget, sIf, sSet, sRet, sPass, sCont, sBreak, sRetN, sDrop, sSetIx, sApp, sAsg, lf, eTest, eTru, toBl, eOp2, eV, eC, eSh, toShd, eFz, fFz, eIf, fIf, fTest, fOp2, eAnd, eOr, eNot, eAndV, eOrV, eNotV, eTup, eLst, eNil, eCons, fNil, fCons, fTup, fLst, eCB, fCB, eUn, pNeg, eSl, oNone, oSome, toIntO, pSub, pMul, pDiv, pMod, pPow, pLt, pLe, pGt, pGe, intOp, cT, cDiv, cMod, cPow, pAbs, pInt, pMax2, pMin2, plN, plIx, RPs, RPe, atP, getP, setP, setD, appD, okL, ixStep, eCall, eCallB, apN, fMv, fMvP, bName, bTup, bCons, bNil, wipeD, shd, frz, cIt, itE, eIsi, isiB, argsAt, restD, vsOk, Fl.val, nx, nxE, stp, isScal, updP]; exact size_ok (by omega)) (lcGo_all (h := fun e : Nat => .int (df t x z e)) (cols n t) (fun e he => ⟨_, rfl, by
      have he' := (cols_mem.mp he).1
      have b1 := ix_row (o := false) (f := t x) he'
      have b2 := ix_row (o := false) (f := t z) he'
      rw [un_some hu hx he] at b1
      rw [un_some hu hz he] at b2
      simp [sSeq, sForget, sIf, sSet, sRet, sPass, sCont, sBreak, sRetN, sDrop, sSetIx, sApp, sAsg, lf, eTest, eTru, toBl, eOp2, eV, eC, eSh, toShd, eFz, fFz, eIf, fIf, fTest, fOp2, eAnd, eOr, eNot, eAndV, eOrV, eNotV, eTup, eLst, eNil, eCons, fNil, fCons, fTup, fLst, eCB, fCB, eUn, pNeg, eSl, oNone, oSome, toIntO, pSub, pMul, pDiv, pMod, pPow, pLt, pLe, pGt, pGe, intOp, cT, cDiv, cMod, cPow, pAbs, pInt, pMax2, pMin2, plN, plIx, RPs, RPe, atP, getP, setP, setD, appD, okL, ixStep, eCall, eCallB, apN, fMv, fMvP, bName, bTup, bCons, bNil, wipeD, shd, frz, cIt, itE, eIsi, isiB, argsAt, restD, vsOk, Fl.val, nx, nxE, stp, isScal, updP, b1, b2, df]⟩))
    rw [this]; unfold gl; rw [List.map_map]; rfl
  have s1 : sSet 6 (lf (eFz (eLc (cIt itL (eV 1)) (bName 7) eYes (eOp2 pSub (eOp2 pIx (eV 4) (eV 7)) (eOp2 pIx (eV 5) (eV 7))) [7]))) [tb false n t, colD n t, .int a, .int x, rowD false n (t x), rowD false n (t z), .unk, .unk] = .nx [tb false n t, colD n t, .int a, .int x, rowD false n (t x), rowD false n (t z), .lst ((gl n t x z).map D.int), .unk] := by
    unfold sSet lf eFz
    rw [e1]
    have : frzs ((gl n t x z).map D.int) = (gl n t x z).map D.int := frzs_shd (shds_ints _)
    simp [sSeq, sForget, sIf, sSet, sRet, sPass, sCont, sBreak, sRetN, sDrop, sSetIx, sApp, sAsg, lf, eTest, eTru, toBl, eOp2, eV, eC, eSh, toShd, eFz, fFz, eIf, fIf, fTest, fOp2, eAnd, eOr, eNot, eAndV, eOrV, eNotV, eTup, eLst, eNil, eCons, fNil, fCons, fTup, fLst, eCB, fCB, eUn, pNeg, eSl, oNone, oSome, toIntO, pSub, pMul, pDiv, pMod, pPow, pLt, pLe, pGt, pGe, intOp, cT, cDiv, cMod, cPow, pAbs, pInt, pMax2, pMin2, plN, plIx, RPs, RPe, atP, getP, setP, setD, appD, okL, ixStep, eCall, eCallB, apN, fMv, fMvP, bName, bTup, bCons, bNil, wipeD, shd, frz, cIt, itE, eIsi, isiB, argsAt, restD, vsOk, Fl.val, nx, nxE, stp, isScal, updP, this]
  have hne : gl n t x z ≠ [] := by unfold gl; simpa using hc
  have m1 := maxL_ints (o := false) hne
  have m2 := minL_ints (o := false) hne
  unfold b1_spread_of
  refine forget_nx (e := [tb false n t, colD n t, .int (mx a (wd n t x z)), .int x, rowD false n (t x), rowD false n (t z), .lst ((gl n t x z).map D.int), .unk]) (seq_nx s1 ?_)
  simp [sSeq, sForget, sIf, sSet, sRet, sPass, sCont, sBreak, sRetN, sDrop, sSetIx, sApp, sAsg, lf, eTest, eTru, toBl, eOp2, eV, eC, eSh, toShd, eFz, fFz, eIf, fIf, fTest, fOp2, eAnd, eOr, eNot, eAndV, eOrV, eNotV, eTup, eLst, eNil, eCons, fNil, fCons, fTup, fLst, eCB, fCB, eUn, pNeg, eSl, oNone, oSome, toIntO, pSub, pMul, pDiv, pMod, pPow, pLt, pLe, pGt, pGe, intOp, cT, cDiv, cMod, cPow, pAbs, pInt, pMax2, pMin2, plN, plIx, RPs, RPe, atP, getP, setP, setD, appD, okL, ixStep, eCall, eCallB, apN, fMv, fMvP, bName, bTup, bCons, bNil, wipeD, shd, frz, cIt, itE, eIsi, isiB, argsAt, restD, vsOk, Fl.val, nx, nxE, stp, isScal, updP, m1, m2, mx, wd]
theorem spread_inner {n x : Nat} {t : T2} {a : Int} (hu : Un n t) (hx : x < n) (hc : cols n t ≠ []) (hn : n ≤ 6) : b2_spread_of [tb false n t, colD n t, .int a, .int x, rowD false n (t x), .unk, .unk, .unk] = .nx (ev n t ((List.range x).foldl (fun a z => mx a (wd n t x z)) a)) := by
  have lp := (forGo_fold (b := bName 5) (f := b1_spread_of) (item := fun z : Nat => rowD false n (t z)) (E := fun a : Int => [tb false n t, colD n t, .int a, .int x, rowD false n (t x), .unk, .unk, .unk]) (g := fun a z => mx a (wd n t x z)) (I := fun _ => True) (List.range x) a trivial (fun z hz a _ => ⟨trivial, .inl (by
    rw [stp_name]
    exact spread_step hu hx (by have := List.mem_range.mp hz; omega) hc hn)⟩)).1
  have src : cIt itL (eSl (eV 0) oNone (oSome (eV 3))) [tb false n t, colD n t, .int a, .int x, rowD false n (t x), .unk, .unk, .unk] = .ok ((List.range x).map fun z => rowD false n (t z)) := by
    have hs : shds ((List.range x).map fun z => rowD false n (t z)) = true := by rw [shds_all]; simp [sSeq, sForget, sIf, sSet, sRet, sPass, sCont, sBreak, sRetN, sDrop, sSetIx, sApp, sAsg, lf, eTest, eTru, toBl, eOp2, eV, eC, eSh, toShd, eFz, fFz, eIf, fIf, fTest, fOp2, eAnd, eOr, eNot, eAndV, eOrV, eNotV, eTup, eLst, eNil, eCons, fNil, fCons, fTup, fLst, eCB, fCB, eUn, pNeg, eSl, oNone, oSome, toIntO, pSub, pMul, pDiv, pMod, pPow, pLt, pLe, pGt, pGe, intOp, cT, cDiv, cMod, cPow, pAbs, pInt, pMax2, pMin2, plN, plIx, RPs, RPe, atP, getP, setP, setD, appD, okL, ixStep, eCall, eCallB, apN, fMv, fMvP, bName, bTup, bCons, bNil, wipeD, shd, frz, cIt, itE, eIsi, isiB, argsAt, restD, vsOk, Fl.val, nx, nxE, stp, isScal, updP, List.all_map, Function.comp_def]
    simp [sSeq, sForget, sIf, sSet, sRet, sPass, sCont, sBreak, sRetN, sDrop, sSetIx, sApp, sAsg, lf, eTest, eTru, toBl, eOp2, eV, eC, eSh, toShd, eFz, fFz, eIf, fIf, fTest, fOp2, eAnd, eOr, eNot, eAndV, eOrV, eNotV, eTup, eLst, eNil, eCons, fNil, fCons, fTup, fLst, eCB, fCB, eUn, pNeg, eSl, oNone, oSome, toIntO, pSub, pMul, pDiv, pMod, pPow, pLt, pLe, pGt, pGe, intOp, cT, cDiv, cMod, cPow, pAbs, pInt, pMax2, pMin2, plN, plIx, RPs, RPe, atP, getP, setP, setD, appD, okL, ixStep, eCall, eCallB, apN, fMv, fMvP, bName, bTup, bCons, bNil, wipeD, shd, frz, cIt, itE, eIsi, isiB, argsAt, restD, vsOk, Fl.val, nx, nxE, stp, isScal, updP, slice_tb (t := t) (show x ≤ n by omega), hs]
  unfold b2_spread_of
  exact forget_nx (forget_nx ((sFor_ok src).trans lp))
def spr (n : Nat) (t : T2) : Int := (List.range n).foldl (fun a x => (List.range x).foldl (fun a z => mx a (wd n t x z)) a) 0
theorem spread_un {n : Nat} {t : T2} (h : mixed n t = none) (hn1 : 1 ≤ n) (hc : cols n t ≠ []) (hn : n ≤ 6) : (f_spread_of [tb false n t]).dr = .ok (.int (spr n t)) := by
  refine mkF_val (env0 := [tb false n t, .unk, .unk, .unk, .unk, .unk, .unk, .unk]) rfl ?_
  have hu := un_of h hn1
  have ms := mixed_spec hn (t := t)
  rw [h] at ms
  have nc := numcols_spec hn hn1 (t := t)
  have lp := (forGo_fold (b := bTup 2 (bCons (bName 3) (bCons (bName 4) bNil))) (f := b2_spread_of) (item := fun x : Nat => .tup [.int (x : Nat), rowD false n (t x)]) (E := ev n t) (g := fun a x => (List.range x).foldl (fun a z => mx a (wd n t x z)) a) (I := fun _ => True) (List.range n) 0 trivial (fun x hx a _ => ⟨trivial, .inl (by
    have E0 : stp (bTup 2 (bCons (bName 3) (bCons (bName 4) bNil))) b2_spread_of (.tup [.int (x : Nat), rowD false n (t x)]) (ev n t a) = b2_spread_of [tb false n t, colD n t, .int a, .int x, rowD false n (t x), .unk, .unk, .unk] := by simp [sSeq, sForget, sIf, sSet, sRet, sPass, sCont, sBreak, sRetN, sDrop, sSetIx, sApp, sAsg, lf, eTest, eTru, toBl, eOp2, eV, eC, eSh, toShd, eFz, fFz, eIf, fIf, fTest, fOp2, eAnd, eOr, eNot, eAndV, eOrV, eNotV, eTup, eLst, eNil, eCons, fNil, fCons, fTup, fLst, eCB, fCB, eUn, pNeg, eSl, oNone, oSome, toIntO, pSub, pMul, pDiv, pMod, pPow, pLt, pLe, pGt, pGe, intOp, cT, cDiv, cMod, cPow, pAbs, pInt, pMax2, pMin2, plN, plIx, RPs, RPe, atP, getP, setP, setD, appD, okL, ixStep, eCall, eCallB, apN, fMv, fMvP, bName, bTup, bCons, bNil, wipeD, shd, frz, cIt, itE, eIsi, isiB, argsAt, restD, vsOk, Fl.val, nx, nxE, stp, isScal, updP, ev]
    rw [E0]
    exact spread_inner hu (List.mem_range.mp hx) hc hn)⟩)).1
  have src : cItA itE (eCons (eV 0) eNil) (ev n t 0) = .ok ((List.range n).map fun x => .tup [.int (x : Nat), rowD false n (t x)]) := cItA_ok (l := [tb false n t]) (by simp [sSeq, sForget, sIf, sSet, sRet, sPass, sCont, sBreak, sRetN, sDrop, sSetIx, sApp, sAsg, lf, eTest, eTru, toBl, eOp2, eV, eC, eSh, toShd, eFz, fFz, eIf, fIf, fTest, fOp2, eAnd, eOr, eNot, eAndV, eOrV, eNotV, eTup, eLst, eNil, eCons, fNil, fCons, fTup, fLst, eCB, fCB, eUn, pNeg, eSl, oNone, oSome, toIntO, pSub, pMul, pDiv, pMod, pPow, pLt, pLe, pGt, pGe, intOp, cT, cDiv, cMod, cPow, pAbs, pInt, pMax2, pMin2, plN, plIx, RPs, RPe, atP, getP, setP, setD, appD, okL, ixStep, eCall, eCallB, apN, fMv, fMvP, bName, bTup, bCons, bNil, wipeD, shd, frz, cIt, itE, eIsi, isiB, argsAt, restD, vsOk, Fl.val, nx, nxE, stp, isScal, updP, ev]) enum_tb
  unfold m_spread_of
  refine seqv (e := [tb false n t, .unk, .unk, .unk, .unk, .unk, .unk, .unk]) (by simp [sSeq, sForget, sIf, sSet, sRet, sPass, sCont, sBreak, sRetN, sDrop, sSetIx, sApp, sAsg, lf, eTest, eTru, toBl, eOp2, eV, eC, eSh, toShd, eFz, fFz, eIf, fIf, fTest, fOp2, eAnd, eOr, eNot, eAndV, eOrV, eNotV, eTup, eLst, eNil, eCons, fNil, fCons, fTup, fLst, eCB, fCB, eUn, pNeg, eSl, oNone, oSome, toIntO, pSub, pMul, pDiv, pMod, pPow, pLt, pLe, pGt, pGe, intOp, cT, cDiv, cMod, cPow, pAbs, pInt, pMax2, pMin2, plN, plIx, RPs, RPe, atP, getP, setP, setD, appD, okL, ixStep, eCall, eCallB, apN, fMv, fMvP, bName, bTup, bCons, bNil, wipeD, shd, frz, cIt, itE, eIsi, isiB, argsAt, restD, vsOk, Fl.val, nx, nxE, stp, isScal, updP, ms]) (seqv (e := [tb false n t, colD n t, .unk, .unk, .unk, .unk, .unk, .unk]) (by simp [sSeq, sForget, sIf, sSet, sRet, sPass, sCont, sBreak, sRetN, sDrop, sSetIx, sApp, sAsg, lf, eTest, eTru, toBl, eOp2, eV, eC, eSh, toShd, eFz, fFz, eIf, fIf, fTest, fOp2, eAnd, eOr, eNot, eAndV, eOrV, eNotV, eTup, eLst, eNil, eCons, fNil, fCons, fTup, fLst, eCB, fCB, eUn, pNeg, eSl, oNone, oSome, toIntO, pSub, pMul, pDiv, pMod, pPow, pLt, pLe, pGt, pGe, intOp, cT, cDiv, cMod, cPow, pAbs, pInt, pMax2, pMin2, plN, plIx, RPs, RPe, atP, getP, setP, setD, appD, okL, ixStep, eCall, eCallB, apN, fMv, fMvP, bName, bTup, bCons, bNil, wipeD, shd, frz, cIt, itE, eIsi, isiB, argsAt, restD, vsOk, Fl.val, nx, nxE, stp, isScal, updP, nc, colD]) (seqv (e := ev n t 0) (by simp [sSeq, sForget, sIf, sSet, sRet, sPass, sCont, sBreak, sRetN, sDrop, sSetIx, sApp, sAsg, lf, eTest, eTru, toBl, eOp2, eV, eC, eSh, toShd, eFz, fFz, eIf, fIf, fTest, fOp2, eAnd, eOr, eNot, eAndV, eOrV, eNotV, eTup, eLst, eNil, eCons, fNil, fCons, fTup, fLst, eCB, fCB, eUn, pNeg, eSl, oNone, oSome, toIntO, pSub, pMul, pDiv, pMod, pPow, pLt, pLe, pGt, pGe, intOp, cT, cDiv, cMod, cPow, pAbs, pInt, pMax2, pMin2, plN, plIx, RPs, RPe, atP, getP, setP, setD, appD, okL, ixStep, eCall, eCallB, apN, fMv, fMvP, bName, bTup, bCons, bNil, wipeD, shd, frz, cIt, itE, eIsi, isiB, argsAt, restD, vsOk, Fl.val, nx, nxE, stp, isScal, updP, ev]) (seqv (e := ev n t (spr n t)) (forget_nx ((sFor_ok src).trans lp)) ?_)))
  simp [sSeq, sForget, sIf, sSet, sRet, sPass, sCont, sBreak, sRetN, sDrop, sSetIx, sApp, sAsg, lf, eTest, eTru, toBl, eOp2, eV, eC, eSh, toShd, eFz, fFz, eIf, fIf, fTest, fOp2, eAnd, eOr, eNot, eAndV, eOrV, eNotV, eTup, eLst, eNil, eCons, fNil, fCons, fTup, fLst, eCB, fCB, eUn, pNeg, eSl, oNone, oSome, toIntO, pSub, pMul, pDiv, pMod, pPow, pLt, pLe, pGt, pGe, intOp, cT, cDiv, cMod, cPow, pAbs, pInt, pMax2, pMin2, plN, plIx, RPs, RPe, atP, getP, setP, setD, appD, okL, ixStep, eCall, eCallB, apN, fMv, fMvP, bName, bTup, bCons, bNil, wipeD, shd, frz, cIt, itE, eIsi, isiB, argsAt, restD, vsOk, Fl.val, nx, nxE, stp, isScal, updP, ev]
theorem spread_mixed {n : Nat} (hn : n ≤ 6) {t : T2} {z : Nat × Nat × Nat} (h : mixed n t = some z) : (f_spread_of [tb false n t]).dr = .ok (.str "endless") := by
  refine mkF_val (env0 := [tb false n t, .unk, .unk, .unk, .unk, .unk, .unk, .unk]) rfl ?_
  have ms := mixed_spec hn (t := t)
  rw [h] at ms
  have : sIf (lf (eTest (eOp2 pIsNot (eCall 1 f_mixed_column (eCons (eV 0) eNil)) (eC .non)))) (sRet (lf (eC (.str "endless")))) sPass [tb false n t, .unk, .unk, .unk, .unk, .unk, .unk, .unk] = .rt (.str "endless") [tb false n t, .unk, .unk, .unk, .unk, .unk, .unk, .unk] := by
    simp [sSeq, sForget, sIf, sSet, sRet, sPass, sCont, sBreak, sRetN, sDrop, sSetIx, sApp, sAsg, lf, eTest, eTru, toBl, eOp2, eV, eC, eSh, toShd, eFz, fFz, eIf, fIf, fTest, fOp2, eAnd, eOr, eNot, eAndV, eOrV, eNotV, eTup, eLst, eNil, eCons, fNil, fCons, fTup, fLst, eCB, fCB, eUn, pNeg, eSl, oNone, oSome, toIntO, pSub, pMul, pDiv, pMod, pPow, pLt, pLe, pGt, pGe, intOp, cT, cDiv, cMod, cPow, pAbs, pInt, pMax2, pMin2, plN, plIx, RPs, RPe, atP, getP, setP, setD, appD, okL, ixStep, eCall, eCallB, apN, fMv, fMvP, bName, bTup, bCons, bNil, wipeD, shd, frz, cIt, itE, eIsi, isiB, argsAt, restD, vsOk, Fl.val, nx, nxE, stp, isScal, updP, ms, mixD]
  unfold m_spread_of
  rw [seq_rt this]; rfl
end K14


set_option Elab.async false
set_option linter.all false
set_option maxRecDepth 100000
set_option maxHeartbeats 4000000
namespace K14
open DP L2 Evl
abbrev Qd := Nat × Nat × Nat × Nat
abbrev Acc := Int × Option Qd
def gv (t : T2) (s e z y : Nat) : Int := vl t s y + vl t z e - vl t s e - vl t z y
def stA (a : Acc) (q : Qd) (g : Int) : Acc := (mx a.1 g, if 0 < g ∧ a.2 = none then some q else a.2)
def ActA (f : Acc → Acc) (o : Option Qd) (S : Int → Prop) : Prop := ∀ a, (f a).2 = a.2.or o ∧ a.1 ≤ (f a).1 ∧ (∀ g, S g → g ≤ (f a).1) ∧ ((f a).1 = a.1 ∨ S (f a).1)
theorem actA_st (q : Qd) (g : Int) : ActA (fun a => stA a q g) (if 0 < g then some q else none) (fun x => x = g) := fun a => by
  refine ⟨?_, ?_, fun x hx => ?_, ?_⟩
  · show (if 0 < g ∧ a.2 = none then some q else a.2) = _
    cases h : a.2 with
    | none => by_cases c : 0 < g <;> simp [sSeq, sForget, sIf, sSet, sRet, sPass, sCont, sBreak, sRetN, sDrop, sSetIx, sApp, sAsg, lf, eTest, eTru, toBl, eOp2, eV, eC, eSh, toShd, eFz, fFz, eIf, fIf, fTest, fOp2, eAnd, eOr, eNot, eAndV, eOrV, eNotV, eTup, eLst, eNil, eCons, fNil, fCons, fTup, fLst, eCB, fCB, eUn, pNeg, eSl, oNone, oSome, toIntO, pSub, pMul, pDiv, pMod, pPow, pLt, pLe, pGt, pGe, intOp, cT, cDiv, cMod, cPow, pAbs, pInt, pMax2, pMin2, plN, plIx, RPs, RPe, atP, getP, setP, setD, appD, okL, ixStep, eCall, eCallB, apN, fMv, fMvP, bName, bTup, bCons, bNil, wipeD, shd, frz, cIt, itE, eIsi, isiB, argsAt, restD, vsOk, Fl.val, nx, nxE, stp, isScal, updP, c]
    | some w => simp [sSeq, sForget, sIf, sSet, sRet, sPass, sCont, sBreak, sRetN, sDrop, sSetIx, sApp, sAsg, lf, eTest, eTru, toBl, eOp2, eV, eC, eSh, toShd, eFz, fFz, eIf, fIf, fTest, fOp2, eAnd, eOr, eNot, eAndV, eOrV, eNotV, eTup, eLst, eNil, eCons, fNil, fCons, fTup, fLst, eCB, fCB, eUn, pNeg, eSl, oNone, oSome, toIntO, pSub, pMul, pDiv, pMod, pPow, pLt, pLe, pGt, pGe, intOp, cT, cDiv, cMod, cPow, pAbs, pInt, pMax2, pMin2, plN, plIx, RPs, RPe, atP, getP, setP, setD, appD, okL, ixStep, eCall, eCallB, apN, fMv, fMvP, bName, bTup, bCons, bNil, wipeD, shd, frz, cIt, itE, eIsi, isiB, argsAt, restD, vsOk, Fl.val, nx, nxE, stp, isScal, updP]
  · show a.1 ≤ mx a.1 g
    unfold mx; split <;> omega
  · subst hx
    show x ≤ mx a.1 x
    unfold mx; split <;> omega
  · show mx a.1 g = a.1 ∨ mx a.1 g = g
    unfold mx; split
    · exact .inr rfl
    · exact .inl rfl
theorem actA_id : ActA (fun a => a) none (fun _ => False) := fun a => ⟨by simp [sSeq, sForget, sIf, sSet, sRet, sPass, sCont, sBreak, sRetN, sDrop, sSetIx, sApp, sAsg, lf, eTest, eTru, toBl, eOp2, eV, eC, eSh, toShd, eFz, fFz, eIf, fIf, fTest, fOp2, eAnd, eOr, eNot, eAndV, eOrV, eNotV, eTup, eLst, eNil, eCons, fNil, fCons, fTup, fLst, eCB, fCB, eUn, pNeg, eSl, oNone, oSome, toIntO, pSub, pMul, pDiv, pMod, pPow, pLt, pLe, pGt, pGe, intOp, cT, cDiv, cMod, cPow, pAbs, pInt, pMax2, pMin2, plN, plIx, RPs, RPe, atP, getP, setP, setD, appD, okL, ixStep, eCall, eCallB, apN, fMv, fMvP, bName, bTup, bCons, bNil, wipeD, shd, frz, cIt, itE, eIsi, isiB, argsAt, restD, vsOk, Fl.val, nx, nxE, stp, isScal, updP], Int.le_refl _, fun _ h => h.elim, .inl rfl⟩
theorem actA_fold {F : Acc → Nat → Acc} {o : Nat → Option Qd} {S : Nat → Int → Prop} : ∀ (l : List Nat), (∀ x ∈ l, ActA (fun a => F a x) (o x) (S x)) → ActA (fun a => l.foldl F a) (l.findSome? o) (fun g => ∃ x, x ∈ l ∧ S x g)
  | [], _ => fun a => ⟨by simp [sSeq, sForget, sIf, sSet, sRet, sPass, sCont, sBreak, sRetN, sDrop, sSetIx, sApp, sAsg, lf, eTest, eTru, toBl, eOp2, eV, eC, eSh, toShd, eFz, fFz, eIf, fIf, fTest, fOp2, eAnd, eOr, eNot, eAndV, eOrV, eNotV, eTup, eLst, eNil, eCons, fNil, fCons, fTup, fLst, eCB, fCB, eUn, pNeg, eSl, oNone, oSome, toIntO, pSub, pMul, pDiv, pMod, pPow, pLt, pLe, pGt, pGe, intOp, cT, cDiv, cMod, cPow, pAbs, pInt, pMax2, pMin2, plN, plIx, RPs, RPe, atP, getP, setP, setD, appD, okL, ixStep, eCall, eCallB, apN, fMv, fMvP, bName, bTup, bCons, bNil, wipeD, shd, frz, cIt, itE, eIsi, isiB, argsAt, restD, vsOk, Fl.val, nx, nxE, stp, isScal, updP], Int.le_refl _, fun g ⟨x, hx, _⟩ => (nomatch hx), .inl rfl⟩
  | y :: l, h => fun a => by
    obtain ⟨a1, a2, a3, a4⟩ := h y List.mem_cons_self a
    obtain ⟨b1, b2, b3, b4⟩ := actA_fold l (fun x hx => h x (List.mem_cons_of_mem _ hx)) (F a y)
    refine ⟨?_, Int.le_trans a2 b2, fun g ⟨x, hx, hs⟩ => ?_, ?_⟩
    · show (l.foldl F (F a y)).2 = _
      rw [b1, a1, List.findSome?_cons]
      cases a.2 <;> cases o y <;> rfl
    · rcases List.mem_cons.mp hx with rfl | hx
      · exact Int.le_trans (a3 g hs) b2
      · exact b3 g ⟨x, hx, hs⟩
    · rcases b4 with b4 | ⟨x, hx, b4⟩
      · show (l.foldl F (F a y)).1 = _ ∨ _
        rw [b4]
        rcases a4 with a4 | a4
        · exact .inl a4
        · refine .inr ⟨y, List.mem_cons_self, ?_⟩
          have e : (l.foldl F (F a y)).1 = (F a y).1 := b4
          show S y (l.foldl F (F a y)).1
          rw [e]; exact a4
      · exact .inr ⟨x, List.mem_cons_of_mem _ hx, b4⟩
def F4 (t : T2) (s e z : Nat) (a : Acc) (y : Nat) : Acc := if (t s y).isNone = true then a else stA a (s, e, z, y) (gv t s e z y)
def F3 (n : Nat) (t : T2) (s e : Nat) (a : Acc) (z : Nat) : Acc := (List.range n).foldl (F4 t s e z) a
def F2 (n : Nat) (t : T2) (s : Nat) (a : Acc) (e : Nat) : Acc := if (t s e).isNone = true then a else (List.range n).foldl (F3 n t s e) a
def F1 (n : Nat) (t : T2) (a : Acc) (s : Nat) : Acc := (List.range n).foldl (F2 n t s) a
def gapsA (n : Nat) (t : T2) : Acc := (List.range n).foldl (F1 n t) (0, none)
def aD (a : Acc) : D := optD (a.2.map qdD)
@[simp] theorem shd_aD (a : Acc) : shd (aD a) = true := by unfold aD; cases a.2 <;> simp [sSeq, sForget, sIf, sSet, sRet, sPass, sCont, sBreak, sRetN, sDrop, sSetIx, sApp, sAsg, lf, eTest, eTru, toBl, eOp2, eV, eC, eSh, toShd, eFz, fFz, eIf, fIf, fTest, fOp2, eAnd, eOr, eNot, eAndV, eOrV, eNotV, eTup, eLst, eNil, eCons, fNil, fCons, fTup, fLst, eCB, fCB, eUn, pNeg, eSl, oNone, oSome, toIntO, pSub, pMul, pDiv, pMod, pPow, pLt, pLe, pGt, pGe, intOp, cT, cDiv, cMod, cPow, pAbs, pInt, pMax2, pMin2, plN, plIx, RPs, RPe, atP, getP, setP, setD, appD, okL, ixStep, eCall, eCallB, apN, fMv, fMvP, bName, bTup, bCons, bNil, wipeD, shd, frz, cIt, itE, eIsi, isiB, argsAt, restD, vsOk, Fl.val, nx, nxE, stp, isScal, updP, optD, qdD]
@[simp] theorem known_aD (a : Acc) : known (some (aD a)) = .ok (aD a) := by unfold aD; cases a.2 <;> rfl
@[simp] theorem isN_aD (a : Acc) : pIs (aD a) .non = .ok (.bl a.2.isNone) := by unfold aD; cases a.2 <;> rfl
def g3 (n : Nat) (t : T2) (s e z : Nat) (a : Acc) : DP.Env := [tb false n t, .int n, .int a.1, aD a, .int s, .int e, .int z, .unk, .unk]
theorem mem_c {n : Nat} {t : T2} (hu : Un n t) {s y : Nat} (hs : s < n) (hy : y < n) (h : (t s y).isNone = false) : y ∈ cols n t := cols_mem.mpr ⟨hy, fun z => by
  have := hu s hs y hy
  rw [z] at this
  cases q : t s y with
  | none => rw [q] at h; cases h
  | some v => rw [q] at this; cases this⟩
theorem gaps_y {n s e z y : Nat} {t : T2} {a : Acc} (hu : Un n t) (hs : s < n) (he : e ∈ cols n t) (hz : z < n) (hy : y < n) : stp (bName 7) b1_law_d_gaps (.int (y : Nat)) (g3 n t s e z a) = .nx (g3 n t s e z (F4 t s e z a y)) ∨ stp (bName 7) b1_law_d_gaps (.int (y : Nat)) (g3 n t s e z a) = .ct (g3 n t s e z (F4 t s e z a y)) := by
  have E0 : stp (bName 7) b1_law_d_gaps (.int (y : Nat)) (g3 n t s e z a) = b1_law_d_gaps [tb false n t, .int n, .int a.1, aD a, .int s, .int e, .int z, .int y, .unk] := rfl
  rw [E0]
  have he' := (cols_mem.mp he).1
  have r1 := ix_tb (o := false) (t := t) hs
  have r2 := ix_tb (o := false) (t := t) hz
  have a1 := ix_row (o := false) (f := t s) hy
  unfold F4
  cases q : (t s y).isNone with
  | true =>
    rw [if_pos rfl]
    right
    simp [sSeq, sForget, sIf, sSet, sRet, sPass, sCont, sBreak, sRetN, sDrop, sSetIx, sApp, sAsg, lf, eTest, eTru, toBl, eOp2, eV, eC, eSh, toShd, eFz, fFz, eIf, fIf, fTest, fOp2, eAnd, eOr, eNot, eAndV, eOrV, eNotV, eTup, eLst, eNil, eCons, fNil, fCons, fTup, fLst, eCB, fCB, eUn, pNeg, eSl, oNone, oSome, toIntO, pSub, pMul, pDiv, pMod, pPow, pLt, pLe, pGt, pGe, intOp, cT, cDiv, cMod, cPow, pAbs, pInt, pMax2, pMin2, plN, plIx, RPs, RPe, atP, getP, setP, setD, appD, okL, ixStep, eCall, eCallB, apN, fMv, fMvP, bName, bTup, bCons, bNil, wipeD, shd, frz, cIt, itE, eIsi, isiB, argsAt, restD, vsOk, Fl.val, nx, nxE, stp, isScal, updP, b1_law_d_gaps, r1, a1, q, g3]
  | false =>
    rw [if_neg Bool.false_ne_true]
    left
    have hyc := mem_c hu hs hy q
    have a2 := ix_row (o := false) (f := t z) he'
    have a3 := ix_row (o := false) (f := t s) he'
    have a4 := ix_row (o := false) (f := t z) hy
    rw [un_some hu hs hyc] at a1
    rw [un_some hu hz he] at a2
    rw [un_some hu hs he] at a3
    rw [un_some hu hz hyc] at a4
    have hg : vl t s y + vl t z e - vl t s e - vl t z y = gv t s e z y := rfl
    by_cases c : 0 < gv t s e z y
    · cases w : a.2 with
      | none =>
        have e1 : aD (stA a (s, e, z, y) (gv t s e z y)) = qdD (s, e, z, y) := by simp [sSeq, sForget, sIf, sSet, sRet, sPass, sCont, sBreak, sRetN, sDrop, sSetIx, sApp, sAsg, lf, eTest, eTru, toBl, eOp2, eV, eC, eSh, toShd, eFz, fFz, eIf, fIf, fTest, fOp2, eAnd, eOr, eNot, eAndV, eOrV, eNotV, eTup, eLst, eNil, eCons, fNil, fCons, fTup, fLst, eCB, fCB, eUn, pNeg, eSl, oNone, oSome, toIntO, pSub, pMul, pDiv, pMod, pPow, pLt, pLe, pGt, pGe, intOp, cT, cDiv, cMod, cPow, pAbs, pInt, pMax2, pMin2, plN, plIx, RPs, RPe, atP, getP, setP, setD, appD, okL, ixStep, eCall, eCallB, apN, fMv, fMvP, bName, bTup, bCons, bNil, wipeD, shd, frz, cIt, itE, eIsi, isiB, argsAt, restD, vsOk, Fl.val, nx, nxE, stp, isScal, updP, aD, stA, w, c, optD]
        unfold g3
        rw [e1]
        have e2 : aD a = .non := by simp [sSeq, sForget, sIf, sSet, sRet, sPass, sCont, sBreak, sRetN, sDrop, sSetIx, sApp, sAsg, lf, eTest, eTru, toBl, eOp2, eV, eC, eSh, toShd, eFz, fFz, eIf, fIf, fTest, fOp2, eAnd, eOr, eNot, eAndV, eOrV, eNotV, eTup, eLst, eNil, eCons, fNil, fCons, fTup, fLst, eCB, fCB, eUn, pNeg, eSl, oNone, oSome, toIntO, pSub, pMul, pDiv, pMod, pPow, pLt, pLe, pGt, pGe, intOp, cT, cDiv, cMod, cPow, pAbs, pInt, pMax2, pMin2, plN, plIx, RPs, RPe, atP, getP, setP, setD, appD, okL, ixStep, eCall, eCallB, apN, fMv, fMvP, bName, bTup, bCons, bNil, wipeD, shd, frz, cIt, itE, eIsi, isiB, argsAt, restD, vsOk, Fl.val, nx, nxE, stp, isScal, updP, aD, w, optD]
        rw [e2]
        simp [sSeq, sForget, sIf, sSet, sRet, sPass, sCont, sBreak, sRetN, sDrop, sSetIx, sApp, sAsg, lf, eTest, eTru, toBl, eOp2, eV, eC, eSh, toShd, eFz, fFz, eIf, fIf, fTest, fOp2, eAnd, eOr, eNot, eAndV, eOrV, eNotV, eTup, eLst, eNil, eCons, fNil, fCons, fTup, fLst, eCB, fCB, eUn, pNeg, eSl, oNone, oSome, toIntO, pSub, pMul, pDiv, pMod, pPow, pLt, pLe, pGt, pGe, intOp, cT, cDiv, cMod, cPow, pAbs, pInt, pMax2, pMin2, plN, plIx, RPs, RPe, atP, getP, setP, setD, appD, okL, ixStep, eCall, eCallB, apN, fMv, fMvP, bName, bTup, bCons, bNil, wipeD, shd, frz, cIt, itE, eIsi, isiB, argsAt, restD, vsOk, Fl.val, nx, nxE, stp, isScal, updP, b1_law_d_gaps, r1, r2, a1, a2, a3, a4, hg, c, stA, mx, qdD, PySem.sizeLine]
      | some w' =>
        have e1 : aD (stA a (s, e, z, y) (gv t s e z y)) = aD a := by simp [sSeq, sForget, sIf, sSet, sRet, sPass, sCont, sBreak, sRetN, sDrop, sSetIx, sApp, sAsg, lf, eTest, eTru, toBl, eOp2, eV, eC, eSh, toShd, eFz, fFz, eIf, fIf, fTest, fOp2, eAnd, eOr, eNot, eAndV, eOrV, eNotV, eTup, eLst, eNil, eCons, fNil, fCons, fTup, fLst, eCB, fCB, eUn, pNeg, eSl, oNone, oSome, toIntO, pSub, pMul, pDiv, pMod, pPow, pLt, pLe, pGt, pGe, intOp, cT, cDiv, cMod, cPow, pAbs, pInt, pMax2, pMin2, plN, plIx, RPs, RPe, atP, getP, setP, setD, appD, okL, ixStep, eCall, eCallB, apN, fMv, fMvP, bName, bTup, bCons, bNil, wipeD, shd, frz, cIt, itE, eIsi, isiB, argsAt, restD, vsOk, Fl.val, nx, nxE, stp, isScal, updP, aD, stA, w]
        unfold g3
        rw [e1]
        simp [sSeq, sForget, sIf, sSet, sRet, sPass, sCont, sBreak, sRetN, sDrop, sSetIx, sApp, sAsg, lf, eTest, eTru, toBl, eOp2, eV, eC, eSh, toShd, eFz, fFz, eIf, fIf, fTest, fOp2, eAnd, eOr, eNot, eAndV, eOrV, eNotV, eTup, eLst, eNil, eCons, fNil, fCons, fTup, fLst, eCB, fCB, eUn, pNeg, eSl, oNone, oSome, toIntO, pSub, pMul, pDiv, pMod, pPow, pLt, pLe, pGt, pGe, intOp, cT, cDiv, cMod, cPow, pAbs, pInt, pMax2, pMin2, plN, plIx, RPs, RPe, atP, getP, setP, setD, appD, okL, ixStep, eCall, eCallB, apN, fMv, fMvP, bName, bTup, bCons, bNil, wipeD, shd, frz, cIt, itE, eIsi, isiB, argsAt, restD, vsOk, Fl.val, nx, nxE, stp, isScal, updP, b1_law_d_gaps, r1, r2, a1, a2, a3, a4, hg, c, stA, mx, w]
    · have e1 : aD (stA a (s, e, z, y) (gv t s e z y)) = aD a := by simp [sSeq, sForget, sIf, sSet, sRet, sPass, sCont, sBreak, sRetN, sDrop, sSetIx, sApp, sAsg, lf, eTest, eTru, toBl, eOp2, eV, eC, eSh, toShd, eFz, fFz, eIf, fIf, fTest, fOp2, eAnd, eOr, eNot, eAndV, eOrV, eNotV, eTup, eLst, eNil, eCons, fNil, fCons, fTup, fLst, eCB, fCB, eUn, pNeg, eSl, oNone, oSome, toIntO, pSub, pMul, pDiv, pMod, pPow, pLt, pLe, pGt, pGe, intOp, cT, cDiv, cMod, cPow, pAbs, pInt, pMax2, pMin2, plN, plIx, RPs, RPe, atP, getP, setP, setD, appD, okL, ixStep, eCall, eCallB, apN, fMv, fMvP, bName, bTup, bCons, bNil, wipeD, shd, frz, cIt, itE, eIsi, isiB, argsAt, restD, vsOk, Fl.val, nx, nxE, stp, isScal, updP, aD, stA, c]
      unfold g3
      rw [e1]
      simp [sSeq, sForget, sIf, sSet, sRet, sPass, sCont, sBreak, sRetN, sDrop, sSetIx, sApp, sAsg, lf, eTest, eTru, toBl, eOp2, eV, eC, eSh, toShd, eFz, fFz, eIf, fIf, fTest, fOp2, eAnd, eOr, eNot, eAndV, eOrV, eNotV, eTup, eLst, eNil, eCons, fNil, fCons, fTup, fLst, eCB, fCB, eUn, pNeg, eSl, oNone, oSome, toIntO, pSub, pMul, pDiv, pMod, pPow, pLt, pLe, pGt, pGe, intOp, cT, cDiv, cMod, cPow, pAbs, pInt, pMax2, pMin2, plN, plIx, RPs, RPe, atP, getP, setP, setD, appD, okL, ixStep, eCall, eCallB, apN, fMv, fMvP, bName, bTup, bCons, bNil, wipeD, shd, frz, cIt, itE, eIsi, isiB, argsAt, restD, vsOk, Fl.val, nx, nxE, stp, isScal, updP, b1_law_d_gaps, r1, r2, a1, a2, a3, a4, hg, c, stA, mx]
theorem rngI {n : Nat} {E : DP.Env} (h : E[1]? = some (.int (n : Int))) (hn : n ≤ 6) : cItA itR1 (eCons (eV 1) eNil) E = .ok ((List.range n).map fun i => .int (i : Nat)) := rng1 (n := n) (by simp [sSeq, sForget, sIf, sSet, sRet, sPass, sCont, sBreak, sRetN, sDrop, sSetIx, sApp, sAsg, lf, eTest, eTru, toBl, eOp2, eV, eC, eSh, toShd, eFz, fFz, eIf, fIf, fTest, fOp2, eAnd, eOr, eNot, eAndV, eOrV, eNotV, eTup, eLst, eNil, eCons, fNil, fCons, fTup, fLst, eCB, fCB, eUn, pNeg, eSl, oNone, oSome, toIntO, pSub, pMul, pDiv, pMod, pPow, pLt, pLe, pGt, pGe, intOp, cT, cDiv, cMod, cPow, pAbs, pInt, pMax2, pMin2, plN, plIx, RPs, RPe, atP, getP, setP, setD, appD, okL, ixStep, eCall, eCallB, apN, fMv, fMvP, bName, bTup, bCons, bNil, wipeD, shd, frz, cIt, itE, eIsi, isiB, argsAt, restD, vsOk, Fl.val, nx, nxE, stp, isScal, updP, h]) (by omega)
def g2 (n : Nat) (t : T2) (s e : Nat) (a : Acc) : DP.Env := [tb false n t, .int n, .int a.1, aD a, .int s, .int e, .unk, .unk, .unk]
def g1 (n : Nat) (t : T2) (s : Nat) (a : Acc) : DP.Env := [tb false n t, .int n, .int a.1, aD a, .int s, .unk, .unk, .unk, .unk]
def g0 (n : Nat) (t : T2) (a : Acc) : DP.Env := [tb false n t, .int n, .int a.1, aD a, .unk, .unk, .unk, .unk, .unk]
theorem gaps_z {n s e z : Nat} {t : T2} {a : Acc} (hu : Un n t) (hn : n ≤ 6) (hs : s < n) (he : e ∈ cols n t) (hz : z < n) : stp (bName 6) b2_law_d_gaps (.int (z : Nat)) (g2 n t s e a) = .nx (g2 n t s e (F3 n t s e a z)) := by
  have lp := (forGo_fold (b := bName 7) (f := b1_law_d_gaps) (item := fun y : Nat => .int (y : Nat)) (E := g3 n t s e z) (g := F4 t s e z) (I := fun _ => True) (List.range n) a trivial (fun y hy a _ => ⟨trivial, gaps_y hu hs he hz (List.mem_range.mp hy)⟩)).1
  have E0 : stp (bName 6) b2_law_d_gaps (.int (z : Nat)) (g2 n t s e a) = b2_law_d_gaps (g3 n t s e z a) := stp_name.trans (congrArg b2_law_d_gaps rfl)
  rw [E0]
  unfold b2_law_d_gaps
  exact forget_nx (forget_nx ((sFor_ok (rngI rfl hn)).trans lp))
theorem gaps_e {n s e : Nat} {t : T2} {a : Acc} (hu : Un n t) (hn : n ≤ 6) (hs : s < n) (he : e < n) : stp (bName 5) b3_law_d_gaps (.int (e : Nat)) (g1 n t s a) = .nx (g1 n t s (F2 n t s a e)) ∨ stp (bName 5) b3_law_d_gaps (.int (e : Nat)) (g1 n t s a) = .ct (g1 n t s (F2 n t s a e)) := by
  have E0 : stp (bName 5) b3_law_d_gaps (.int (e : Nat)) (g1 n t s a) = b3_law_d_gaps (g2 n t s e a) := stp_name.trans (congrArg b3_law_d_gaps rfl)
  rw [E0]
  have r1 := ix_tb (o := false) (t := t) hs
  have a1 := ix_row (o := false) (f := t s) he
  unfold F2
  cases q : (t s e).isNone with
  | true =>
    rw [if_pos rfl]
    right
    simp [sSeq, sForget, sIf, sSet, sRet, sPass, sCont, sBreak, sRetN, sDrop, sSetIx, sApp, sAsg, lf, eTest, eTru, toBl, eOp2, eV, eC, eSh, toShd, eFz, fFz, eIf, fIf, fTest, fOp2, eAnd, eOr, eNot, eAndV, eOrV, eNotV, eTup, eLst, eNil, eCons, fNil, fCons, fTup, fLst, eCB, fCB, eUn, pNeg, eSl, oNone, oSome, toIntO, pSub, pMul, pDiv, pMod, pPow, pLt, pLe, pGt, pGe, intOp, cT, cDiv, cMod, cPow, pAbs, pInt, pMax2, pMin2, plN, plIx, RPs, RPe, atP, getP, setP, setD, appD, okL, ixStep, eCall, eCallB, apN, fMv, fMvP, bName, bTup, bCons, bNil, wipeD, shd, frz, cIt, itE, eIsi, isiB, argsAt, restD, vsOk, Fl.val, nx, nxE, stp, isScal, updP, b3_law_d_gaps, r1, a1, q, g2, g1]
  | false =>
    rw [if_neg Bool.false_ne_true]
    left
    have hec := mem_c hu hs he q
    have lp := (forGo_fold (b := bName 6) (f := b2_law_d_gaps) (item := fun z : Nat => .int (z : Nat)) (E := g2 n t s e) (g := F3 n t s e) (I := fun _ => True) (List.range n) a trivial (fun z hz a _ => ⟨trivial, .inl (gaps_z hu hn hs hec (List.mem_range.mp hz))⟩)).1
    have s1 : sIf (lf (eTest (eOp2 pIs (eOp2 pIx (eOp2 pIx (eV 0) (eV 4)) (eV 5)) (eC .non)))) sCont sPass (g2 n t s e a) = .nx (g2 n t s e a) := by
      simp [sSeq, sForget, sIf, sSet, sRet, sPass, sCont, sBreak, sRetN, sDrop, sSetIx, sApp, sAsg, lf, eTest, eTru, toBl, eOp2, eV, eC, eSh, toShd, eFz, fFz, eIf, fIf, fTest, fOp2, eAnd, eOr, eNot, eAndV, eOrV, eNotV, eTup, eLst, eNil, eCons, fNil, fCons, fTup, fLst, eCB, fCB, eUn, pNeg, eSl, oNone, oSome, toIntO, pSub, pMul, pDiv, pMod, pPow, pLt, pLe, pGt, pGe, intOp, cT, cDiv, cMod, cPow, pAbs, pInt, pMax2, pMin2, plN, plIx, RPs, RPe, atP, getP, setP, setD, appD, okL, ixStep, eCall, eCallB, apN, fMv, fMvP, bName, bTup, bCons, bNil, wipeD, shd, frz, cIt, itE, eIsi, isiB, argsAt, restD, vsOk, Fl.val, nx, nxE, stp, isScal, updP, g2, r1, a1, q]
    unfold b3_law_d_gaps
    exact forget_nx (seq_nx s1 (forget_nx ((sFor_ok (rngI rfl hn)).trans lp)))
theorem gaps_s {n s : Nat} {t : T2} {a : Acc} (hu : Un n t) (hn : n ≤ 6) (hs : s < n) : stp (bName 4) b4_law_d_gaps (.int (s : Nat)) (g0 n t a) = .nx (g0 n t (F1 n t a s)) := by
  have lp := (forGo_fold (b := bName 5) (f := b3_law_d_gaps) (item := fun e : Nat => .int (e : Nat)) (E := g1 n t s) (g := F2 n t s) (I := fun _ => True) (List.range n) a trivial (fun e he a _ => ⟨trivial, gaps_e hu hn hs (List.mem_range.mp he)⟩)).1
  have E0 : stp (bName 4) b4_law_d_gaps (.int (s : Nat)) (g0 n t a) = b4_law_d_gaps (g1 n t s a) := stp_name.trans (congrArg b4_law_d_gaps rfl)
  rw [E0]
  unfold b4_law_d_gaps
  exact forget_nx (forget_nx ((sFor_ok (rngI rfl hn)).trans lp))
theorem gaps_spec {n : Nat} {t : T2} (hu : Un n t) (hn : n ≤ 6) : (f_law_d_gaps [tb false n t]).dr = .ok (.tup [.int (gapsA n t).1, aD (gapsA n t)]) := by
  refine mkF_val (env0 := [tb false n t, .unk, .unk, .unk, .unk, .unk, .unk, .unk, .unk]) rfl ?_
  have lp := (forGo_fold (b := bName 4) (f := b4_law_d_gaps) (item := fun e : Nat => .int (e : Nat)) (E := g0 n t) (g := F1 n t) (I := fun _ => True) (List.range n) (0, none) trivial (fun e he a _ => ⟨trivial, .inl (gaps_s hu hn (List.mem_range.mp he))⟩)).1
  unfold m_law_d_gaps
  refine seqv (e := [tb false n t, .int n, .unk, .unk, .unk, .unk, .unk, .unk, .unk]) (by simp [sSeq, sForget, sIf, sSet, sRet, sPass, sCont, sBreak, sRetN, sDrop, sSetIx, sApp, sAsg, lf, eTest, eTru, toBl, eOp2, eV, eC, eSh, toShd, eFz, fFz, eIf, fIf, fTest, fOp2, eAnd, eOr, eNot, eAndV, eOrV, eNotV, eTup, eLst, eNil, eCons, fNil, fCons, fTup, fLst, eCB, fCB, eUn, pNeg, eSl, oNone, oSome, toIntO, pSub, pMul, pDiv, pMod, pPow, pLt, pLe, pGt, pGe, intOp, cT, cDiv, cMod, cPow, pAbs, pInt, pMax2, pMin2, plN, plIx, RPs, RPe, atP, getP, setP, setD, appD, okL, ixStep, eCall, eCallB, apN, fMv, fMvP, bName, bTup, bCons, bNil, wipeD, shd, frz, cIt, itE, eIsi, isiB, argsAt, restD, vsOk, Fl.val, nx, nxE, stp, isScal, updP]) (seqv (e := [tb false n t, .int n, .int 0, .unk, .unk, .unk, .unk, .unk, .unk]) (by simp [sSeq, sForget, sIf, sSet, sRet, sPass, sCont, sBreak, sRetN, sDrop, sSetIx, sApp, sAsg, lf, eTest, eTru, toBl, eOp2, eV, eC, eSh, toShd, eFz, fFz, eIf, fIf, fTest, fOp2, eAnd, eOr, eNot, eAndV, eOrV, eNotV, eTup, eLst, eNil, eCons, fNil, fCons, fTup, fLst, eCB, fCB, eUn, pNeg, eSl, oNone, oSome, toIntO, pSub, pMul, pDiv, pMod, pPow, pLt, pLe, pGt, pGe, intOp, cT, cDiv, cMod, cPow, pAbs, pInt, pMax2, pMin2, plN, plIx, RPs, RPe, atP, getP, setP, setD, appD, okL, ixStep, eCall, eCallB, apN, fMv, fMvP, bName, bTup, bCons, bNil, wipeD, shd, frz, cIt, itE, eIsi, isiB, argsAt, restD, vsOk, Fl.val, nx, nxE, stp, isScal, updP]) (seqv (e := g0 n t (0, none)) (by simp [sSeq, sForget, sIf, sSet, sRet, sPass, sCont, sBreak, sRetN, sDrop, sSetIx, sApp, sAsg, lf, eTest, eTru, toBl, eOp2, eV, eC, eSh, toShd, eFz, fFz, eIf, fIf, fTest, fOp2, eAnd, eOr, eNot, eAndV, eOrV, eNotV, eTup, eLst, eNil, eCons, fNil, fCons, fTup, fLst, eCB, fCB, eUn, pNeg, eSl, oNone, oSome, toIntO, pSub, pMul, pDiv, pMod, pPow, pLt, pLe, pGt, pGe, intOp, cT, cDiv, cMod, cPow, pAbs, pInt, pMax2, pMin2, plN, plIx, RPs, RPe, atP, getP, setP, setD, appD, okL, ixStep, eCall, eCallB, apN, fMv, fMvP, bName, bTup, bCons, bNil, wipeD, shd, frz, cIt, itE, eIsi, isiB, argsAt, restD, vsOk, Fl.val, nx, nxE, stp, isScal, updP, g0, aD, optD]) (seqv (e := g0 n t (gapsA n t)) (forget_nx ((sFor_ok (rngI rfl hn)).trans lp)) ?_)))
  simp [sSeq, sForget, sIf, sSet, sRet, sPass, sCont, sBreak, sRetN, sDrop, sSetIx, sApp, sAsg, lf, eTest, eTru, toBl, eOp2, eV, eC, eSh, toShd, eFz, fFz, eIf, fIf, fTest, fOp2, eAnd, eOr, eNot, eAndV, eOrV, eNotV, eTup, eLst, eNil, eCons, fNil, fCons, fTup, fLst, eCB, fCB, eUn, pNeg, eSl, oNone, oSome, toIntO, pSub, pMul, pDiv, pMod, pPow, pLt, pLe, pGt, pGe, intOp, cT, cDiv, cMod, cPow, pAbs, pInt, pMax2, pMin2, plN, plIx, RPs, RPe, atP, getP, setP, setD, appD, okL, ixStep, eCall, eCallB, apN, fMv, fMvP, bName, bTup, bCons, bNil, wipeD, shd, frz, cIt, itE, eIsi, isiB, argsAt, restD, vsOk, Fl.val, nx, nxE, stp, isScal, updP, g0, PySem.sizeLine]
/-- what the accumulators come to -/
theorem gaps_act {n : Nat} {t : T2} : ActA (fun a => (List.range n).foldl (F1 n t) a) ((List.range n).findSome? fun s => (List.range n).findSome? fun e => if (t s e).isNone = true then none else (List.range n).findSome? fun z => (List.range n).findSome? fun y => if (t s y).isNone = true then none else if 0 < gv t s e z y then some (s, e, z, y) else none)
    (fun g => ∃ s, s ∈ List.range n ∧ ∃ e, e ∈ List.range n ∧ (t s e).isNone = false ∧ ∃ z, z ∈ List.range n ∧ ∃ y, y ∈ List.range n ∧ (t s y).isNone = false ∧ g = gv t s e z y) := by
  refine actA_fold _ (fun s _ => actA_fold _ (fun e _ => ?_))
  unfold F2
  cases q : (t s e).isNone with
  | true => intro a; exact ⟨by simp [sSeq, sForget, sIf, sSet, sRet, sPass, sCont, sBreak, sRetN, sDrop, sSetIx, sApp, sAsg, lf, eTest, eTru, toBl, eOp2, eV, eC, eSh, toShd, eFz, fFz, eIf, fIf, fTest, fOp2, eAnd, eOr, eNot, eAndV, eOrV, eNotV, eTup, eLst, eNil, eCons, fNil, fCons, fTup, fLst, eCB, fCB, eUn, pNeg, eSl, oNone, oSome, toIntO, pSub, pMul, pDiv, pMod, pPow, pLt, pLe, pGt, pGe, intOp, cT, cDiv, cMod, cPow, pAbs, pInt, pMax2, pMin2, plN, plIx, RPs, RPe, atP, getP, setP, setD, appD, okL, ixStep, eCall, eCallB, apN, fMv, fMvP, bName, bTup, bCons, bNil, wipeD, shd, frz, cIt, itE, eIsi, isiB, argsAt, restD, vsOk, Fl.val, nx, nxE, stp, isScal, updP], Int.le_refl _, (fun g ⟨h, _⟩ => nomatch h), .inl rfl⟩
  | false =>
    have := actA_fold (F := F3 n t s e) (List.range n) (fun z _ => actA_fold (F := F4 t s e z) (o := fun y => if (t s y).isNone = true then none else if 0 < gv t s e z y then some (s, e, z, y) else none) (S := fun y g => (t s y).isNone = false ∧ g = gv t s e z y) (List.range n) (fun y _ => by
      unfold F4
      cases q2 : (t s y).isNone with
      | true => intro a; exact ⟨by simp [sSeq, sForget, sIf, sSet, sRet, sPass, sCont, sBreak, sRetN, sDrop, sSetIx, sApp, sAsg, lf, eTest, eTru, toBl, eOp2, eV, eC, eSh, toShd, eFz, fFz, eIf, fIf, fTest, fOp2, eAnd, eOr, eNot, eAndV, eOrV, eNotV, eTup, eLst, eNil, eCons, fNil, fCons, fTup, fLst, eCB, fCB, eUn, pNeg, eSl, oNone, oSome, toIntO, pSub, pMul, pDiv, pMod, pPow, pLt, pLe, pGt, pGe, intOp, cT, cDiv, cMod, cPow, pAbs, pInt, pMax2, pMin2, plN, plIx, RPs, RPe, atP, getP, setP, setD, appD, okL, ixStep, eCall, eCallB, apN, fMv, fMvP, bName, bTup, bCons, bNil, wipeD, shd, frz, cIt, itE, eIsi, isiB, argsAt, restD, vsOk, Fl.val, nx, nxE, stp, isScal, updP], Int.le_refl _, (fun g ⟨h, _⟩ => nomatch h), .inl rfl⟩
      | false =>
        intro a
        obtain ⟨b1, b2, b3, b4⟩ := actA_st (s, e, z, y) (gv t s e z y) a
        exact ⟨b1, b2, fun g ⟨_, h⟩ => b3 g h, b4.imp id fun h => ⟨rfl, h⟩⟩))
    intro a
    obtain ⟨b1, b2, b3, b4⟩ := this a
    exact ⟨b1, b2, fun g ⟨_, h⟩ => b3 g h, b4.imp id fun h => ⟨rfl, h⟩⟩
end K14


set_option Elab.async false
set_option linter.all false
set_option maxRecDepth 100000
set_option maxHeartbeats 4000000
namespace K14
open DP L2 Evl
theorem nice_nats {o : Bool} (l : List Nat) : nice 64 (.con o .lst (l.map fun s => .int (s : Nat))) = true := by simp [sSeq, sForget, sIf, sSet, sRet, sPass, sCont, sBreak, sRetN, sDrop, sSetIx, sApp, sAsg, lf, eTest, eTru, toBl, eOp2, eV, eC, eSh, toShd, eFz, fFz, eIf, fIf, fTest, fOp2, eAnd, eOr, eNot, eAndV, eOrV, eNotV, eTup, eLst, eNil, eCons, fNil, fCons, fTup, fLst, eCB, fCB, eUn, pNeg, eSl, oNone, oSome, toIntO, pSub, pMul, pDiv, pMod, pPow, pLt, pLe, pGt, pGe, intOp, cT, cDiv, cMod, cPow, pAbs, pInt, pMax2, pMin2, plN, plIx, RPs, RPe, atP, getP, setP, setD, appD, okL, ixStep, eCall, eCallB, apN, fMv, fMvP, bName, bTup, bCons, bNil, wipeD, shd, frz, cIt, itE, eIsi, isiB, argsAt, restD, vsOk, Fl.val, nx, nxE, stp, isScal, updP, nice, List.all_map, Function.comp_def]
theorem ne_nats (l : List Nat) : pNe (natsD l) (.own []) = .ok (.bl (!l.isEmpty)) := by
  have := pNe_nil (o' := true) (nice_nats (o := false) l)
  unfold natsD
  rw [this]; simp [sSeq, sForget, sIf, sSet, sRet, sPass, sCont, sBreak, sRetN, sDrop, sSetIx, sApp, sAsg, lf, eTest, eTru, toBl, eOp2, eV, eC, eSh, toShd, eFz, fFz, eIf, fIf, fTest, fOp2, eAnd, eOr, eNot, eAndV, eOrV, eNotV, eTup, eLst, eNil, eCons, fNil, fCons, fTup, fLst, eCB, fCB, eUn, pNeg, eSl, oNone, oSome, toIntO, pSub, pMul, pDiv, pMod, pPow, pLt, pLe, pGt, pGe, intOp, cT, cDiv, cMod, cPow, pAbs, pInt, pMax2, pMin2, plN, plIx, RPs, RPe, atP, getP, setP, setD, appD, okL, ixStep, eCall, eCallB, apN, fMv, fMvP, bName, bTup, bCons, bNil, wipeD, shd, frz, cIt, itE, eIsi, isiB, argsAt, restD, vsOk, Fl.val, nx, nxE, stp, isScal, updP]
def d0 (n : Nat) (t : T2) : DP.Env := [tb false n t, .int n, .unk, .unk, .unk, .unk, .unk, .unk, .unk]
def colT (z : Nat × Nat × Nat) : D := .tup [.tup [.str "column", .int z.1, .int z.2.1, .int z.2.2], .str "endless"]
theorem due_step {n e : Nat} {t : T2} (hn : n ≤ 6) (he : e < n) : match (mix1 n t e).map colT with
    | none => stp (bName 2) b1_law_d_due (.int (e : Nat)) (d0 n t) = .nx (d0 n t) ∨ stp (bName 2) b1_law_d_due (.int (e : Nat)) (d0 n t) = .ct (d0 n t)
    | some d => ∃ e', stp (bName 2) b1_law_d_due (.int (e : Nat)) (d0 n t) = .rt d e' := by
  have E0 : stp (bName 2) b1_law_d_due (.int (e : Nat)) (d0 n t) = b1_law_d_due [tb false n t, .int n, .int e, .unk, .unk, .unk, .unk, .unk, .unk] := stp_name.trans (congrArg b1_law_d_due rfl)
  rw [E0]
  have c1 : eLc (cItA itR1 (eCons (eV 1) eNil)) (bName 7) (eTest (eOp2 pIs (eOp2 pIx (eOp2 pIx (eV 0) (eV 7)) (eV 2)) (eC .non))) (eV 7) [7] [tb false n t, .int n, .int e, .unk, .unk, .unk, .unk, .unk, .unk] = .ok (.own ((nones n t e).map fun s => .int (s : Nat))) := by
    refine eLc_ok (rngI rfl hn) (by simp [sSeq, sForget, sIf, sSet, sRet, sPass, sCont, sBreak, sRetN, sDrop, sSetIx, sApp, sAsg, lf, eTest, eTru, toBl, eOp2, eV, eC, eSh, toShd, eFz, fFz, eIf, fIf, fTest, fOp2, eAnd, eOr, eNot, eAndV, eOrV, eNotV, eTup, eLst, eNil, eCons, fNil, fCons, fTup, fLst, eCB, fCB, eUn, pNeg, eSl, oNone, oSome, toIntO, pSub, pMul, pDiv, pMod, pPow, pLt, pLe, pGt, pGe, intOp, cT, cDiv, cMod, cPow, pAbs, pInt, pMax2, pMin2, plN, plIx, RPs, RPe, atP, getP, setP, setD, appD, okL, ixStep, eCall, eCallB, apN, fMv, fMvP, bName, bTup, bCons, bNil, wipeD, shd, frz, cIt, itE, eIsi, isiB, argsAt, restD, vsOk, Fl.val, nx, nxE, stp, isScal, updP]; exact size_ok (by omega)) ?_
    refine lcGo_map (item := fun s : Nat => .int (s : Nat)) (p := fun s => (t s e).isNone) (h := fun s : Nat => .int (s : Nat)) _ (fun s hs => ?_)
    have a0 := ix_tb (o := false) (t := t) (List.mem_range.mp hs)
    have a1 := ix_row (o := false) (f := t s) he
    exact ⟨_, rfl, by simp [sSeq, sForget, sIf, sSet, sRet, sPass, sCont, sBreak, sRetN, sDrop, sSetIx, sApp, sAsg, lf, eTest, eTru, toBl, eOp2, eV, eC, eSh, toShd, eFz, fFz, eIf, fIf, fTest, fOp2, eAnd, eOr, eNot, eAndV, eOrV, eNotV, eTup, eLst, eNil, eCons, fNil, fCons, fTup, fLst, eCB, fCB, eUn, pNeg, eSl, oNone, oSome, toIntO, pSub, pMul, pDiv, pMod, pPow, pLt, pLe, pGt, pGe, intOp, cT, cDiv, cMod, cPow, pAbs, pInt, pMax2, pMin2, plN, plIx, RPs, RPe, atP, getP, setP, setD, appD, okL, ixStep, eCall, eCallB, apN, fMv, fMvP, bName, bTup, bCons, bNil, wipeD, shd, frz, cIt, itE, eIsi, isiB, argsAt, restD, vsOk, Fl.val, nx, nxE, stp, isScal, updP, a0, a1], fun _ => by simp [sSeq, sForget, sIf, sSet, sRet, sPass, sCont, sBreak, sRetN, sDrop, sSetIx, sApp, sAsg, lf, eTest, eTru, toBl, eOp2, eV, eC, eSh, toShd, eFz, fFz, eIf, fIf, fTest, fOp2, eAnd, eOr, eNot, eAndV, eOrV, eNotV, eTup, eLst, eNil, eCons, fNil, fCons, fTup, fLst, eCB, fCB, eUn, pNeg, eSl, oNone, oSome, toIntO, pSub, pMul, pDiv, pMod, pPow, pLt, pLe, pGt, pGe, intOp, cT, cDiv, cMod, cPow, pAbs, pInt, pMax2, pMin2, plN, plIx, RPs, RPe, atP, getP, setP, setD, appD, okL, ixStep, eCall, eCallB, apN, fMv, fMvP, bName, bTup, bCons, bNil, wipeD, shd, frz, cIt, itE, eIsi, isiB, argsAt, restD, vsOk, Fl.val, nx, nxE, stp, isScal, updP]⟩
  have c2 : eLc (cItA itR1 (eCons (eV 1) eNil)) (bName 7) (eTest (eOp2 pIsNot (eOp2 pIx (eOp2 pIx (eV 0) (eV 7)) (eV 2)) (eC .non))) (eV 7) [7] [tb false n t, .int n, .int e, natsD (nones n t e), .unk, .unk, .unk, .unk, .unk] = .ok (.own ((nums n t e).map fun s => .int (s : Nat))) := by
    refine eLc_ok (rngI rfl hn) (by simp [sSeq, sForget, sIf, sSet, sRet, sPass, sCont, sBreak, sRetN, sDrop, sSetIx, sApp, sAsg, lf, eTest, eTru, toBl, eOp2, eV, eC, eSh, toShd, eFz, fFz, eIf, fIf, fTest, fOp2, eAnd, eOr, eNot, eAndV, eOrV, eNotV, eTup, eLst, eNil, eCons, fNil, fCons, fTup, fLst, eCB, fCB, eUn, pNeg, eSl, oNone, oSome, toIntO, pSub, pMul, pDiv, pMod, pPow, pLt, pLe, pGt, pGe, intOp, cT, cDiv, cMod, cPow, pAbs, pInt, pMax2, pMin2, plN, plIx, RPs, RPe, atP, getP, setP, setD, appD, okL, ixStep, eCall, eCallB, apN, fMv, fMvP, bName, bTup, bCons, bNil, wipeD, shd, frz, cIt, itE, eIsi, isiB, argsAt, restD, vsOk, Fl.val, nx, nxE, stp, isScal, updP]; exact size_ok (by omega)) ?_
    refine lcGo_map (item := fun s : Nat => .int (s : Nat)) (p := fun s => (t s e).isSome) (h := fun s : Nat => .int (s : Nat)) _ (fun s hs => ?_)
    have a0 := ix_tb (o := false) (t := t) (List.mem_range.mp hs)
    have a1 := ix_row (o := false) (f := t s) he
    exact ⟨_, rfl, by simp [sSeq, sForget, sIf, sSet, sRet, sPass, sCont, sBreak, sRetN, sDrop, sSetIx, sApp, sAsg, lf, eTest, eTru, toBl, eOp2, eV, eC, eSh, toShd, eFz, fFz, eIf, fIf, fTest, fOp2, eAnd, eOr, eNot, eAndV, eOrV, eNotV, eTup, eLst, eNil, eCons, fNil, fCons, fTup, fLst, eCB, fCB, eUn, pNeg, eSl, oNone, oSome, toIntO, pSub, pMul, pDiv, pMod, pPow, pLt, pLe, pGt, pGe, intOp, cT, cDiv, cMod, cPow, pAbs, pInt, pMax2, pMin2, plN, plIx, RPs, RPe, atP, getP, setP, setD, appD, okL, ixStep, eCall, eCallB, apN, fMv, fMvP, bName, bTup, bCons, bNil, wipeD, shd, frz, cIt, itE, eIsi, isiB, argsAt, restD, vsOk, Fl.val, nx, nxE, stp, isScal, updP, a0, a1], fun _ => by simp [sSeq, sForget, sIf, sSet, sRet, sPass, sCont, sBreak, sRetN, sDrop, sSetIx, sApp, sAsg, lf, eTest, eTru, toBl, eOp2, eV, eC, eSh, toShd, eFz, fFz, eIf, fIf, fTest, fOp2, eAnd, eOr, eNot, eAndV, eOrV, eNotV, eTup, eLst, eNil, eCons, fNil, fCons, fTup, fLst, eCB, fCB, eUn, pNeg, eSl, oNone, oSome, toIntO, pSub, pMul, pDiv, pMod, pPow, pLt, pLe, pGt, pGe, intOp, cT, cDiv, cMod, cPow, pAbs, pInt, pMax2, pMin2, plN, plIx, RPs, RPe, atP, getP, setP, setD, appD, okL, ixStep, eCall, eCallB, apN, fMv, fMvP, bName, bTup, bCons, bNil, wipeD, shd, frz, cIt, itE, eIsi, isiB, argsAt, restD, vsOk, Fl.val, nx, nxE, stp, isScal, updP]⟩
  have s1 : sSet 3 (lf (eFz (eLc (cItA itR1 (eCons (eV 1) eNil)) (bName 7) (eTest (eOp2 pIs (eOp2 pIx (eOp2 pIx (eV 0) (eV 7)) (eV 2)) (eC .non))) (eV 7) [7]))) [tb false n t, .int n, .int e, .unk, .unk, .unk, .unk, .unk, .unk] = .nx [tb false n t, .int n, .int e, natsD (nones n t e), .unk, .unk, .unk, .unk, .unk] := by
    unfold sSet lf eFz; rw [c1]; simp [sSeq, sForget, sIf, sSet, sRet, sPass, sCont, sBreak, sRetN, sDrop, sSetIx, sApp, sAsg, lf, eTest, eTru, toBl, eOp2, eV, eC, eSh, toShd, eFz, fFz, eIf, fIf, fTest, fOp2, eAnd, eOr, eNot, eAndV, eOrV, eNotV, eTup, eLst, eNil, eCons, fNil, fCons, fTup, fLst, eCB, fCB, eUn, pNeg, eSl, oNone, oSome, toIntO, pSub, pMul, pDiv, pMod, pPow, pLt, pLe, pGt, pGe, intOp, cT, cDiv, cMod, cPow, pAbs, pInt, pMax2, pMin2, plN, plIx, RPs, RPe, atP, getP, setP, setD, appD, okL, ixStep, eCall, eCallB, apN, fMv, fMvP, bName, bTup, bCons, bNil, wipeD, shd, frz, cIt, itE, eIsi, isiB, argsAt, restD, vsOk, Fl.val, nx, nxE, stp, isScal, updP, natsD]
  have s2 : sSet 4 (lf (eFz (eLc (cItA itR1 (eCons (eV 1) eNil)) (bName 7) (eTest (eOp2 pIsNot (eOp2 pIx (eOp2 pIx (eV 0) (eV 7)) (eV 2)) (eC .non))) (eV 7) [7]))) [tb false n t, .int n, .int e, natsD (nones n t e), .unk, .unk, .unk, .unk, .unk] = .nx [tb false n t, .int n, .int e, natsD (nones n t e), natsD (nums n t e), .unk, .unk, .unk, .unk] := by
    unfold sSet lf eFz; rw [c2]; simp [sSeq, sForget, sIf, sSet, sRet, sPass, sCont, sBreak, sRetN, sDrop, sSetIx, sApp, sAsg, lf, eTest, eTru, toBl, eOp2, eV, eC, eSh, toShd, eFz, fFz, eIf, fIf, fTest, fOp2, eAnd, eOr, eNot, eAndV, eOrV, eNotV, eTup, eLst, eNil, eCons, fNil, fCons, fTup, fLst, eCB, fCB, eUn, pNeg, eSl, oNone, oSome, toIntO, pSub, pMul, pDiv, pMod, pPow, pLt, pLe, pGt, pGe, intOp, cT, cDiv, cMod, cPow, pAbs, pInt, pMax2, pMin2, plN, plIx, RPs, RPe, atP, getP, setP, setD, appD, okL, ixStep, eCall, eCallB, apN, fMv, fMvP, bName, bTup, bCons, bNil, wipeD, shd, frz, cIt, itE, eIsi, isiB, argsAt, restD, vsOk, Fl.val, nx, nxE, stp, isScal, updP, natsD]
  have n1 := ne_nats (nones n t e)
  have n2 := ne_nats (nums n t e)
  unfold mix1
  cases q1 : nums n t e with
  | nil =>
    rw [q1] at s2 n2
    left
    refine forget_nx (e := [tb false n t, .int n, .int e, natsD (nones n t e), natsD [], .unk, .unk, .unk, .unk]) (seq_nx s1 (seq_nx s2 ?_))
    cases q2 : (nones n t e).isEmpty <;> simp [sSeq, sForget, sIf, sSet, sRet, sPass, sCont, sBreak, sRetN, sDrop, sSetIx, sApp, sAsg, lf, eTest, eTru, toBl, eOp2, eV, eC, eSh, toShd, eFz, fFz, eIf, fIf, fTest, fOp2, eAnd, eOr, eNot, eAndV, eOrV, eNotV, eTup, eLst, eNil, eCons, fNil, fCons, fTup, fLst, eCB, fCB, eUn, pNeg, eSl, oNone, oSome, toIntO, pSub, pMul, pDiv, pMod, pPow, pLt, pLe, pGt, pGe, intOp, cT, cDiv, cMod, cPow, pAbs, pInt, pMax2, pMin2, plN, plIx, RPs, RPe, atP, getP, setP, setD, appD, okL, ixStep, eCall, eCallB, apN, fMv, fMvP, bName, bTup, bCons, bNil, wipeD, shd, frz, cIt, itE, eIsi, isiB, argsAt, restD, vsOk, Fl.val, nx, nxE, stp, isScal, updP, n1, n2, q2, PySem.sizeLine]
  | cons a l =>
    rw [q1] at s2 n2
    cases q2 : nones n t e with
    | nil =>
      rw [q2] at s1 s2 n1
      left
      refine forget_nx (e := [tb false n t, .int n, .int e, natsD [], natsD (a :: l), .unk, .unk, .unk, .unk]) (seq_nx s1 (seq_nx s2 ?_))
      simp [sSeq, sForget, sIf, sSet, sRet, sPass, sCont, sBreak, sRetN, sDrop, sSetIx, sApp, sAsg, lf, eTest, eTru, toBl, eOp2, eV, eC, eSh, toShd, eFz, fFz, eIf, fIf, fTest, fOp2, eAnd, eOr, eNot, eAndV, eOrV, eNotV, eTup, eLst, eNil, eCons, fNil, fCons, fTup, fLst, eCB, fCB, eUn, pNeg, eSl, oNone, oSome, toIntO, pSub, pMul, pDiv, pMod, pPow, pLt, pLe, pGt, pGe, intOp, cT, cDiv, cMod, cPow, pAbs, pInt, pMax2, pMin2, plN, plIx, RPs, RPe, atP, getP, setP, setD, appD, okL, ixStep, eCall, eCallB, apN, fMv, fMvP, bName, bTup, bCons, bNil, wipeD, shd, frz, cIt, itE, eIsi, isiB, argsAt, restD, vsOk, Fl.val, nx, nxE, stp, isScal, updP, n1, n2, PySem.sizeLine]
    | cons b l2 =>
      rw [q2] at s1 s2 n1
      refine ⟨[tb false n t, .int n, .int e, natsD (b :: l2), natsD (a :: l), .unk, .unk, .unk, .unk], forget_rt (seq_nx s1 (seq_nx s2 ?_))⟩
      simp [sSeq, sForget, sIf, sSet, sRet, sPass, sCont, sBreak, sRetN, sDrop, sSetIx, sApp, sAsg, lf, eTest, eTru, toBl, eOp2, eV, eC, eSh, toShd, eFz, fFz, eIf, fIf, fTest, fOp2, eAnd, eOr, eNot, eAndV, eOrV, eNotV, eTup, eLst, eNil, eCons, fNil, fCons, fTup, fLst, eCB, fCB, eUn, pNeg, eSl, oNone, oSome, toIntO, pSub, pMul, pDiv, pMod, pPow, pLt, pLe, pGt, pGe, intOp, cT, cDiv, cMod, cPow, pAbs, pInt, pMax2, pMin2, plN, plIx, RPs, RPe, atP, getP, setP, setD, appD, okL, ixStep, eCall, eCallB, apN, fMv, fMvP, bName, bTup, bCons, bNil, wipeD, shd, frz, cIt, itE, eIsi, isiB, argsAt, restD, vsOk, Fl.val, nx, nxE, stp, isScal, updP, n1, n2, PySem.sizeLine, head_nats, colT]
theorem due_loop {n : Nat} {t : T2} (hn : n ≤ 6) : match (mixed n t).map colT with
    | none => sForget (sFor (cItA itR1 (eCons (eV 1) eNil)) (bName 2) b1_law_d_due) [2, 3, 4] (d0 n t) = .nx (d0 n t)
    | some d => ∃ e', sForget (sFor (cItA itR1 (eCons (eV 1) eNil)) (bName 2) b1_law_d_due) [2, 3, 4] (d0 n t) = .rt d e' := by
  have lp := forGo_find (b := bName 2) (f := b1_law_d_due) (item := fun e : Nat => .int (e : Nat)) (E := d0 n t) (h := fun e => (mix1 n t e).map colT) (List.range n) (fun e he => due_step hn (List.mem_range.mp he))
  rw [findSome_map] at lp
  unfold mixed
  cases q : (List.range n).findSome? (mix1 n t) with
  | none => rw [q] at lp; exact forget_nx ((sFor_ok (rngI rfl hn)).trans lp)
  | some w => rw [q] at lp; obtain ⟨e', lp⟩ := lp; exact ⟨e', forget_rt ((sFor_ok (rngI rfl hn)).trans lp)⟩
theorem due_mixed {n : Nat} {t : T2} {z : Nat × Nat × Nat} (hn : n ≤ 6) (h : mixed n t = some z) : (f_law_d_due [tb false n t]).dr = .ok (colT z) := by
  refine mkF_val (env0 := [tb false n t, .unk, .unk, .unk, .unk, .unk, .unk, .unk, .unk]) rfl ?_
  have lp := due_loop (t := t) hn
  rw [h] at lp
  obtain ⟨e', lp⟩ := lp
  unfold m_law_d_due
  refine seqv (e := d0 n t) (by simp [sSeq, sForget, sIf, sSet, sRet, sPass, sCont, sBreak, sRetN, sDrop, sSetIx, sApp, sAsg, lf, eTest, eTru, toBl, eOp2, eV, eC, eSh, toShd, eFz, fFz, eIf, fIf, fTest, fOp2, eAnd, eOr, eNot, eAndV, eOrV, eNotV, eTup, eLst, eNil, eCons, fNil, fCons, fTup, fLst, eCB, fCB, eUn, pNeg, eSl, oNone, oSome, toIntO, pSub, pMul, pDiv, pMod, pPow, pLt, pLe, pGt, pGe, intOp, cT, cDiv, cMod, cPow, pAbs, pInt, pMax2, pMin2, plN, plIx, RPs, RPe, atP, getP, setP, setD, appD, okL, ixStep, eCall, eCallB, apN, fMv, fMvP, bName, bTup, bCons, bNil, wipeD, shd, frz, cIt, itE, eIsi, isiB, argsAt, restD, vsOk, Fl.val, nx, nxE, stp, isScal, updP, d0]) ?_
  rw [seq_rt lp]; rfl
theorem due_gap {n : Nat} {t : T2} {z : Qd} (hn : n ≤ 6) (hn1 : 1 ≤ n) (h : mixed n t = none) (hg : (gapsA n t).2 = some z) : (f_law_d_due [tb false n t]).dr = .ok (.tup [.tup [.str "gap", .int z.1, .int z.2.1, .int z.2.2.1, .int z.2.2.2], .int (gapsA n t).1]) := by
  refine mkF_val (env0 := [tb false n t, .unk, .unk, .unk, .unk, .unk, .unk, .unk, .unk]) rfl ?_
  have lp := due_loop (t := t) hn
  rw [h] at lp
  have gs := gaps_spec (un_of h hn1) hn
  have ea : aD (gapsA n t) = qdD z := by simp [sSeq, sForget, sIf, sSet, sRet, sPass, sCont, sBreak, sRetN, sDrop, sSetIx, sApp, sAsg, lf, eTest, eTru, toBl, eOp2, eV, eC, eSh, toShd, eFz, fFz, eIf, fIf, fTest, fOp2, eAnd, eOr, eNot, eAndV, eOrV, eNotV, eTup, eLst, eNil, eCons, fNil, fCons, fTup, fLst, eCB, fCB, eUn, pNeg, eSl, oNone, oSome, toIntO, pSub, pMul, pDiv, pMod, pPow, pLt, pLe, pGt, pGe, intOp, cT, cDiv, cMod, cPow, pAbs, pInt, pMax2, pMin2, plN, plIx, RPs, RPe, atP, getP, setP, setD, appD, okL, ixStep, eCall, eCallB, apN, fMv, fMvP, bName, bTup, bCons, bNil, wipeD, shd, frz, cIt, itE, eIsi, isiB, argsAt, restD, vsOk, Fl.val, nx, nxE, stp, isScal, updP, aD, hg, optD]
  rw [ea] at gs
  unfold m_law_d_due
  refine seqv (e := d0 n t) (by simp [sSeq, sForget, sIf, sSet, sRet, sPass, sCont, sBreak, sRetN, sDrop, sSetIx, sApp, sAsg, lf, eTest, eTru, toBl, eOp2, eV, eC, eSh, toShd, eFz, fFz, eIf, fIf, fTest, fOp2, eAnd, eOr, eNot, eAndV, eOrV, eNotV, eTup, eLst, eNil, eCons, fNil, fCons, fTup, fLst, eCB, fCB, eUn, pNeg, eSl, oNone, oSome, toIntO, pSub, pMul, pDiv, pMod, pPow, pLt, pLe, pGt, pGe, intOp, cT, cDiv, cMod, cPow, pAbs, pInt, pMax2, pMin2, plN, plIx, RPs, RPe, atP, getP, setP, setD, appD, okL, ixStep, eCall, eCallB, apN, fMv, fMvP, bName, bTup, bCons, bNil, wipeD, shd, frz, cIt, itE, eIsi, isiB, argsAt, restD, vsOk, Fl.val, nx, nxE, stp, isScal, updP, d0]) (seqv lp (seqv (e := [tb false n t, .int n, .unk, .unk, .unk, .tup [.int (gapsA n t).1, qdD z], .unk, .unk, .unk]) (by simp [sSeq, sForget, sIf, sSet, sRet, sPass, sCont, sBreak, sRetN, sDrop, sSetIx, sApp, sAsg, lf, eTest, eTru, toBl, eOp2, eV, eC, eSh, toShd, eFz, fFz, eIf, fIf, fTest, fOp2, eAnd, eOr, eNot, eAndV, eOrV, eNotV, eTup, eLst, eNil, eCons, fNil, fCons, fTup, fLst, eCB, fCB, eUn, pNeg, eSl, oNone, oSome, toIntO, pSub, pMul, pDiv, pMod, pPow, pLt, pLe, pGt, pGe, intOp, cT, cDiv, cMod, cPow, pAbs, pInt, pMax2, pMin2, plN, plIx, RPs, RPe, atP, getP, setP, setD, appD, okL, ixStep, eCall, eCallB, apN, fMv, fMvP, bName, bTup, bCons, bNil, wipeD, shd, frz, cIt, itE, eIsi, isiB, argsAt, restD, vsOk, Fl.val, nx, nxE, stp, isScal, updP, d0, gs, qdD]) ?_))
  have : sIf (lf (eTest (eOp2 pIsNot (eOp2 pIx (eV 5) (eC (.int 1))) (eC .non)))) (sRet (lf (eTup (eCons (eTup (eCons (eC (.str "gap")) (eCons (eOp2 pIx (eOp2 pIx (eV 5) (eC (.int 1))) (eC (.int 0))) (eCons (eOp2 pIx (eOp2 pIx (eV 5) (eC (.int 1))) (eC (.int 1))) (eCons (eOp2 pIx (eOp2 pIx (eV 5) (eC (.int 1))) (eC (.int 2))) (eCons (eOp2 pIx (eOp2 pIx (eV 5) (eC (.int 1))) (eC (.int 3))) eNil)))))) (eCons (eOp2 pIx (eV 5) (eC (.int 0))) eNil))))) sPass [tb false n t, .int n, .unk, .unk, .unk, .tup [.int (gapsA n t).1, qdD z], .unk, .unk, .unk] = .rt (.tup [.tup [.str "gap", .int z.1, .int z.2.1, .int z.2.2.1, .int z.2.2.2], .int (gapsA n t).1]) [tb false n t, .int n, .unk, .unk, .unk, .tup [.int (gapsA n t).1, qdD z], .unk, .unk, .unk] := by
    simp [sSeq, sForget, sIf, sSet, sRet, sPass, sCont, sBreak, sRetN, sDrop, sSetIx, sApp, sAsg, lf, eTest, eTru, toBl, eOp2, eV, eC, eSh, toShd, eFz, fFz, eIf, fIf, fTest, fOp2, eAnd, eOr, eNot, eAndV, eOrV, eNotV, eTup, eLst, eNil, eCons, fNil, fCons, fTup, fLst, eCB, fCB, eUn, pNeg, eSl, oNone, oSome, toIntO, pSub, pMul, pDiv, pMod, pPow, pLt, pLe, pGt, pGe, intOp, cT, cDiv, cMod, cPow, pAbs, pInt, pMax2, pMin2, plN, plIx, RPs, RPe, atP, getP, setP, setD, appD, okL, ixStep, eCall, eCallB, apN, fMv, fMvP, bName, bTup, bCons, bNil, wipeD, shd, frz, cIt, itE, eIsi, isiB, argsAt, restD, vsOk, Fl.val, nx, nxE, stp, isScal, updP, qdD, atI, ixN, PySem.sizeLine]
  rw [seq_rt this]; rfl
def plD (n : Nat) (t : T2) (c : Nat) : D := .lst ((List.range n).map fun x => .int (pc t c x))
theorem due_wall {n c : Nat} {t : T2} {r : List Nat} (hn : n ≤ 6) (hn1 : 1 ≤ n) (h : mixed n t = none) (hg : (gapsA n t).2 = none) (hc : cols n t = c :: r) : (f_law_d_due [tb false n t]).dr = .ok (.tup [.tup [.str "wall", plD n t c, rowD true n (t 0)], .int 0]) := by
  refine mkF_val (env0 := [tb false n t, .unk, .unk, .unk, .unk, .unk, .unk, .unk, .unk]) rfl ?_
  have hu := un_of h hn1
  have cm : c ∈ cols n t := by rw [hc]; exact List.mem_cons_self
  have hcn := (cols_mem.mp cm).1
  have lp := due_loop (t := t) hn
  rw [h] at lp
  have gs := gaps_spec (un_of h hn1) hn
  have ea : aD (gapsA n t) = .non := by simp [sSeq, sForget, sIf, sSet, sRet, sPass, sCont, sBreak, sRetN, sDrop, sSetIx, sApp, sAsg, lf, eTest, eTru, toBl, eOp2, eV, eC, eSh, toShd, eFz, fFz, eIf, fIf, fTest, fOp2, eAnd, eOr, eNot, eAndV, eOrV, eNotV, eTup, eLst, eNil, eCons, fNil, fCons, fTup, fLst, eCB, fCB, eUn, pNeg, eSl, oNone, oSome, toIntO, pSub, pMul, pDiv, pMod, pPow, pLt, pLe, pGt, pGe, intOp, cT, cDiv, cMod, cPow, pAbs, pInt, pMax2, pMin2, plN, plIx, RPs, RPe, atP, getP, setP, setD, appD, okL, ixStep, eCall, eCallB, apN, fMv, fMvP, bName, bTup, bCons, bNil, wipeD, shd, frz, cIt, itE, eIsi, isiB, argsAt, restD, vsOk, Fl.val, nx, nxE, stp, isScal, updP, aD, hg, optD]
  rw [ea] at gs
  have a0 : pIx (tb false n t) (.int 0) = .ok (rowD false n (t 0)) := ix_tb (x := 0) (by omega)
  have a00 := ix_row (o := false) (f := t 0) hcn
  rw [un_some hu (by omega) cm] at a00
  let G : D := .tup [.int (gapsA n t).1, .non]
  have e1 : eLc (cItA itR1 (eCons (eV 1) eNil)) (bName 8) (eTest (eOp2 pIsNot (eOp2 pIx (eOp2 pIx (eV 0) (eC (.int 0))) (eV 8)) (eC .non))) (eV 8) [8] [tb false n t, .int n, .unk, .unk, .unk, G, .unk, .unk, .unk] = .ok (.own ((cols n t).map fun e => .int (e : Nat))) := by
    refine eLc_ok (rngI rfl hn) (by simp [sSeq, sForget, sIf, sSet, sRet, sPass, sCont, sBreak, sRetN, sDrop, sSetIx, sApp, sAsg, lf, eTest, eTru, toBl, eOp2, eV, eC, eSh, toShd, eFz, fFz, eIf, fIf, fTest, fOp2, eAnd, eOr, eNot, eAndV, eOrV, eNotV, eTup, eLst, eNil, eCons, fNil, fCons, fTup, fLst, eCB, fCB, eUn, pNeg, eSl, oNone, oSome, toIntO, pSub, pMul, pDiv, pMod, pPow, pLt, pLe, pGt, pGe, intOp, cT, cDiv, cMod, cPow, pAbs, pInt, pMax2, pMin2, plN, plIx, RPs, RPe, atP, getP, setP, setD, appD, okL, ixStep, eCall, eCallB, apN, fMv, fMvP, bName, bTup, bCons, bNil, wipeD, shd, frz, cIt, itE, eIsi, isiB, argsAt, restD, vsOk, Fl.val, nx, nxE, stp, isScal, updP]; exact size_ok (by omega)) ?_
    refine lcGo_map (item := fun s : Nat => .int (s : Nat)) (p := fun e => (t 0 e).isSome) (h := fun s : Nat => .int (s : Nat)) _ (fun e he => ?_)
    have a1 := ix_row (o := false) (f := t 0) (List.mem_range.mp he)
    exact ⟨_, rfl, by simp [sSeq, sForget, sIf, sSet, sRet, sPass, sCont, sBreak, sRetN, sDrop, sSetIx, sApp, sAsg, lf, eTest, eTru, toBl, eOp2, eV, eC, eSh, toShd, eFz, fFz, eIf, fIf, fTest, fOp2, eAnd, eOr, eNot, eAndV, eOrV, eNotV, eTup, eLst, eNil, eCons, fNil, fCons, fTup, fLst, eCB, fCB, eUn, pNeg, eSl, oNone, oSome, toIntO, pSub, pMul, pDiv, pMod, pPow, pLt, pLe, pGt, pGe, intOp, cT, cDiv, cMod, cPow, pAbs, pInt, pMax2, pMin2, plN, plIx, RPs, RPe, atP, getP, setP, setD, appD, okL, ixStep, eCall, eCallB, apN, fMv, fMvP, bName, bTup, bCons, bNil, wipeD, shd, frz, cIt, itE, eIsi, isiB, argsAt, restD, vsOk, Fl.val, nx, nxE, stp, isScal, updP, a0, a1], fun _ => by simp [sSeq, sForget, sIf, sSet, sRet, sPass, sCont, sBreak, sRetN, sDrop, sSetIx, sApp, sAsg, lf, eTest, eTru, toBl, eOp2, eV, eC, eSh, toShd, eFz, fFz, eIf, fIf, fTest, fOp2, eAnd, eOr, eNot, eAndV, eOrV, eNotV, eTup, eLst, eNil, eCons, fNil, fCons, fTup, fLst, eCB, fCB, eUn, pNeg, eSl, oNone, oSome, toIntO, pSub, pMul, pDiv, pMod, pPow, pLt, pLe, pGt, pGe, intOp, cT, cDiv, cMod, cPow, pAbs, pInt, pMax2, pMin2, plN, plIx, RPs, RPe, atP, getP, setP, setD, appD, okL, ixStep, eCall, eCallB, apN, fMv, fMvP, bName, bTup, bCons, bNil, wipeD, shd, frz, cIt, itE, eIsi, isiB, argsAt, restD, vsOk, Fl.val, nx, nxE, stp, isScal, updP]⟩
  have e1' : eOp2 pIx (eLc (cItA itR1 (eCons (eV 1) eNil)) (bName 8) (eTest (eOp2 pIsNot (eOp2 pIx (eOp2 pIx (eV 0) (eC (.int 0))) (eV 8)) (eC .non))) (eV 8) [8]) (eC (.int 0)) [tb false n t, .int n, .unk, .unk, .unk, G, .unk, .unk, .unk] = .ok (.int c) := by
    show (eLc (cItA itR1 (eCons (eV 1) eNil)) (bName 8) (eTest (eOp2 pIsNot (eOp2 pIx (eOp2 pIx (eV 0) (eC (.int 0))) (eV 8)) (eC .non))) (eV 8) [8] [tb false n t, .int n, .unk, .unk, .unk, G, .unk, .unk, .unk] >>= fun x => eC (.int 0) [tb false n t, .int n, .unk, .unk, .unk, G, .unk, .unk, .unk] >>= fun y => pIx x y) = _
    rw [e1, hc]
    simp [sSeq, sForget, sIf, sSet, sRet, sPass, sCont, sBreak, sRetN, sDrop, sSetIx, sApp, sAsg, lf, eTest, eTru, toBl, eOp2, eV, eC, eSh, toShd, eFz, fFz, eIf, fIf, fTest, fOp2, eAnd, eOr, eNot, eAndV, eOrV, eNotV, eTup, eLst, eNil, eCons, fNil, fCons, fTup, fLst, eCB, fCB, eUn, pNeg, eSl, oNone, oSome, toIntO, pSub, pMul, pDiv, pMod, pPow, pLt, pLe, pGt, pGe, intOp, cT, cDiv, cMod, cPow, pAbs, pInt, pMax2, pMin2, plN, plIx, RPs, RPe, atP, getP, setP, setD, appD, okL, ixStep, eCall, eCallB, apN, fMv, fMvP, bName, bTup, bCons, bNil, wipeD, shd, frz, cIt, itE, eIsi, isiB, argsAt, restD, vsOk, Fl.val, nx, nxE, stp, isScal, updP, atI, ixN]
  have s5 : sSet 2 (lf (eFz (eOp2 pIx (eLc (cItA itR1 (eCons (eV 1) eNil)) (bName 8) (eTest (eOp2 pIsNot (eOp2 pIx (eOp2 pIx (eV 0) (eC (.int 0))) (eV 8)) (eC .non))) (eV 8) [8]) (eC (.int 0))))) [tb false n t, .int n, .unk, .unk, .unk, G, .unk, .unk, .unk] = .nx [tb false n t, .int n, .int c, .unk, .unk, G, .unk, .unk, .unk] := by
    unfold sSet lf eFz
    rw [e1']
    rfl
  have e2 : eLc (cItA itR1 (eCons (eV 1) eNil)) (bName 7) eYes (eOp2 pSub (eOp2 pIx (eOp2 pIx (eV 0) (eV 7)) (eV 2)) (eOp2 pIx (eOp2 pIx (eV 0) (eC (.int 0))) (eV 2))) [7] [tb false n t, .int n, .int c, .unk, .unk, G, .unk, .unk, .unk] = .ok (pD n t c) := by
    refine eLc_ok (rngI rfl hn) (by simp [sSeq, sForget, sIf, sSet, sRet, sPass, sCont, sBreak, sRetN, sDrop, sSetIx, sApp, sAsg, lf, eTest, eTru, toBl, eOp2, eV, eC, eSh, toShd, eFz, fFz, eIf, fIf, fTest, fOp2, eAnd, eOr, eNot, eAndV, eOrV, eNotV, eTup, eLst, eNil, eCons, fNil, fCons, fTup, fLst, eCB, fCB, eUn, pNeg, eSl, oNone, oSome, toIntO, pSub, pMul, pDiv, pMod, pPow, pLt, pLe, pGt, pGe, intOp, cT, cDiv, cMod, cPow, pAbs, pInt, pMax2, pMin2, plN, plIx, RPs, RPe, atP, getP, setP, setD, appD, okL, ixStep, eCall, eCallB, apN, fMv, fMvP, bName, bTup, bCons, bNil, wipeD, shd, frz, cIt, itE, eIsi, isiB, argsAt, restD, vsOk, Fl.val, nx, nxE, stp, isScal, updP]; exact size_ok (by omega)) ?_
    refine lcGo_all _ (fun x hx => ⟨_, rfl, ?_⟩)
    have b0 := ix_tb (o := false) (t := t) (List.mem_range.mp hx)
    have b1 := ix_row (o := false) (f := t x) hcn
    rw [un_some hu (List.mem_range.mp hx) cm] at b1
    simp [sSeq, sForget, sIf, sSet, sRet, sPass, sCont, sBreak, sRetN, sDrop, sSetIx, sApp, sAsg, lf, eTest, eTru, toBl, eOp2, eV, eC, eSh, toShd, eFz, fFz, eIf, fIf, fTest, fOp2, eAnd, eOr, eNot, eAndV, eOrV, eNotV, eTup, eLst, eNil, eCons, fNil, fCons, fTup, fLst, eCB, fCB, eUn, pNeg, eSl, oNone, oSome, toIntO, pSub, pMul, pDiv, pMod, pPow, pLt, pLe, pGt, pGe, intOp, cT, cDiv, cMod, cPow, pAbs, pInt, pMax2, pMin2, plN, plIx, RPs, RPe, atP, getP, setP, setD, appD, okL, ixStep, eCall, eCallB, apN, fMv, fMvP, bName, bTup, bCons, bNil, wipeD, shd, frz, cIt, itE, eIsi, isiB, argsAt, restD, vsOk, Fl.val, nx, nxE, stp, isScal, updP, a0, a00, b0, b1, pc]
  have s6 : sSet 6 (lf (eFz (eLc (cItA itR1 (eCons (eV 1) eNil)) (bName 7) eYes (eOp2 pSub (eOp2 pIx (eOp2 pIx (eV 0) (eV 7)) (eV 2)) (eOp2 pIx (eOp2 pIx (eV 0) (eC (.int 0))) (eV 2))) [7]))) [tb false n t, .int n, .int c, .unk, .unk, G, .unk, .unk, .unk] = .nx [tb false n t, .int n, .int c, .unk, .unk, G, plD n t c, .unk, .unk] := by
    unfold sSet lf eFz; rw [e2]; simp [sSeq, sForget, sIf, sSet, sRet, sPass, sCont, sBreak, sRetN, sDrop, sSetIx, sApp, sAsg, lf, eTest, eTru, toBl, eOp2, eV, eC, eSh, toShd, eFz, fFz, eIf, fIf, fTest, fOp2, eAnd, eOr, eNot, eAndV, eOrV, eNotV, eTup, eLst, eNil, eCons, fNil, fCons, fTup, fLst, eCB, fCB, eUn, pNeg, eSl, oNone, oSome, toIntO, pSub, pMul, pDiv, pMod, pPow, pLt, pLe, pGt, pGe, intOp, cT, cDiv, cMod, cPow, pAbs, pInt, pMax2, pMin2, plN, plIx, RPs, RPe, atP, getP, setP, setD, appD, okL, ixStep, eCall, eCallB, apN, fMv, fMvP, bName, bTup, bCons, bNil, wipeD, shd, frz, cIt, itE, eIsi, isiB, argsAt, restD, vsOk, Fl.val, nx, nxE, stp, isScal, updP, pD, plD]
  have lr := list_row (n := n) (f := t 0)
  unfold m_law_d_due
  refine seqv (e := d0 n t) (by simp [sSeq, sForget, sIf, sSet, sRet, sPass, sCont, sBreak, sRetN, sDrop, sSetIx, sApp, sAsg, lf, eTest, eTru, toBl, eOp2, eV, eC, eSh, toShd, eFz, fFz, eIf, fIf, fTest, fOp2, eAnd, eOr, eNot, eAndV, eOrV, eNotV, eTup, eLst, eNil, eCons, fNil, fCons, fTup, fLst, eCB, fCB, eUn, pNeg, eSl, oNone, oSome, toIntO, pSub, pMul, pDiv, pMod, pPow, pLt, pLe, pGt, pGe, intOp, cT, cDiv, cMod, cPow, pAbs, pInt, pMax2, pMin2, plN, plIx, RPs, RPe, atP, getP, setP, setD, appD, okL, ixStep, eCall, eCallB, apN, fMv, fMvP, bName, bTup, bCons, bNil, wipeD, shd, frz, cIt, itE, eIsi, isiB, argsAt, restD, vsOk, Fl.val, nx, nxE, stp, isScal, updP, d0]) (seqv lp (seqv (e := [tb false n t, .int n, .unk, .unk, .unk, G, .unk, .unk, .unk]) (by simp [sSeq, sForget, sIf, sSet, sRet, sPass, sCont, sBreak, sRetN, sDrop, sSetIx, sApp, sAsg, lf, eTest, eTru, toBl, eOp2, eV, eC, eSh, toShd, eFz, fFz, eIf, fIf, fTest, fOp2, eAnd, eOr, eNot, eAndV, eOrV, eNotV, eTup, eLst, eNil, eCons, fNil, fCons, fTup, fLst, eCB, fCB, eUn, pNeg, eSl, oNone, oSome, toIntO, pSub, pMul, pDiv, pMod, pPow, pLt, pLe, pGt, pGe, intOp, cT, cDiv, cMod, cPow, pAbs, pInt, pMax2, pMin2, plN, plIx, RPs, RPe, atP, getP, setP, setD, appD, okL, ixStep, eCall, eCallB, apN, fMv, fMvP, bName, bTup, bCons, bNil, wipeD, shd, frz, cIt, itE, eIsi, isiB, argsAt, restD, vsOk, Fl.val, nx, nxE, stp, isScal, updP, d0, gs, G]) (seqv (e := [tb false n t, .int n, .unk, .unk, .unk, G, .unk, .unk, .unk]) (by simp [sSeq, sForget, sIf, sSet, sRet, sPass, sCont, sBreak, sRetN, sDrop, sSetIx, sApp, sAsg, lf, eTest, eTru, toBl, eOp2, eV, eC, eSh, toShd, eFz, fFz, eIf, fIf, fTest, fOp2, eAnd, eOr, eNot, eAndV, eOrV, eNotV, eTup, eLst, eNil, eCons, fNil, fCons, fTup, fLst, eCB, fCB, eUn, pNeg, eSl, oNone, oSome, toIntO, pSub, pMul, pDiv, pMod, pPow, pLt, pLe, pGt, pGe, intOp, cT, cDiv, cMod, cPow, pAbs, pInt, pMax2, pMin2, plN, plIx, RPs, RPe, atP, getP, setP, setD, appD, okL, ixStep, eCall, eCallB, apN, fMv, fMvP, bName, bTup, bCons, bNil, wipeD, shd, frz, cIt, itE, eIsi, isiB, argsAt, restD, vsOk, Fl.val, nx, nxE, stp, isScal, updP, G, atI, ixN]) ?_)))
  refine seqv s5 (seqv s6 ?_)
  simp [sSeq, sForget, sIf, sSet, sRet, sPass, sCont, sBreak, sRetN, sDrop, sSetIx, sApp, sAsg, lf, eTest, eTru, toBl, eOp2, eV, eC, eSh, toShd, eFz, fFz, eIf, fIf, fTest, fOp2, eAnd, eOr, eNot, eAndV, eOrV, eNotV, eTup, eLst, eNil, eCons, fNil, fCons, fTup, fLst, eCB, fCB, eUn, pNeg, eSl, oNone, oSome, toIntO, pSub, pMul, pDiv, pMod, pPow, pLt, pLe, pGt, pGe, intOp, cT, cDiv, cMod, cPow, pAbs, pInt, pMax2, pMin2, plN, plIx, RPs, RPe, atP, getP, setP, setD, appD, okL, ixStep, eCall, eCallB, apN, fMv, fMvP, bName, bTup, bCons, bNil, wipeD, shd, frz, cIt, itE, eIsi, isiB, argsAt, restD, vsOk, Fl.val, nx, nxE, stp, isScal, updP, a0, lr, PySem.sizeLine, plD]
end K14


set_option Elab.async false
set_option linter.all false
set_option maxRecDepth 100000
set_option maxHeartbeats 4000000
namespace K14
open DP L2 Evl
theorem findSome_congr {α β : Type} {f g : α → Option β} : ∀ {l : List α}, (∀ x ∈ l, f x = g x) → l.findSome? f = l.findSome? g
  | [], _ => rfl
  | a :: l, h => by rw [List.findSome?_cons, List.findSome?_cons, h a List.mem_cons_self, findSome_congr fun x hx => h x (List.mem_cons_of_mem _ hx)]
theorem findSome_filter {α β : Type} {p : α → Bool} {f : α → Option β} : ∀ {l : List α}, (l.filter p).findSome? f = l.findSome? fun x => if p x = true then f x else none
  | [] => rfl
  | a :: l => by
    rw [List.filter_cons, List.findSome?_cons]
    cases h : p a with
    | true => simp only [if_true]; rw [List.findSome?_cons, findSome_filter]
    | false => simp only [Bool.false_eq_true, if_false]; exact findSome_filter
theorem fs_cols {β : Type} {n s : Nat} {t : T2} (hu : Un n t) (hs : s < n) (f : Nat → Option β) : (List.range n).findSome? (fun e => if (t s e).isNone = true then none else f e) = (cols n t).findSome? f := by
  unfold cols
  rw [findSome_filter]
  refine findSome_congr fun e he => ?_
  have := hu s hs e (List.mem_range.mp he)
  cases h : t s e with
  | none => rw [h] at this; simp [sSeq, sForget, sIf, sSet, sRet, sPass, sCont, sBreak, sRetN, sDrop, sSetIx, sApp, sAsg, lf, eTest, eTru, toBl, eOp2, eV, eC, eSh, toShd, eFz, fFz, eIf, fIf, fTest, fOp2, eAnd, eOr, eNot, eAndV, eOrV, eNotV, eTup, eLst, eNil, eCons, fNil, fCons, fTup, fLst, eCB, fCB, eUn, pNeg, eSl, oNone, oSome, toIntO, pSub, pMul, pDiv, pMod, pPow, pLt, pLe, pGt, pGe, intOp, cT, cDiv, cMod, cPow, pAbs, pInt, pMax2, pMin2, plN, plIx, RPs, RPe, atP, getP, setP, setD, appD, okL, ixStep, eCall, eCallB, apN, fMv, fMvP, bName, bTup, bCons, bNil, wipeD, shd, frz, cIt, itE, eIsi, isiB, argsAt, restD, vsOk, Fl.val, nx, nxE, stp, isScal, updP, ← this]
  | some v => rw [h] at this; simp [sSeq, sForget, sIf, sSet, sRet, sPass, sCont, sBreak, sRetN, sDrop, sSetIx, sApp, sAsg, lf, eTest, eTru, toBl, eOp2, eV, eC, eSh, toShd, eFz, fFz, eIf, fIf, fTest, fOp2, eAnd, eOr, eNot, eAndV, eOrV, eNotV, eTup, eLst, eNil, eCons, fNil, fCons, fTup, fLst, eCB, fCB, eUn, pNeg, eSl, oNone, oSome, toIntO, pSub, pMul, pDiv, pMod, pPow, pLt, pLe, pGt, pGe, intOp, cT, cDiv, cMod, cPow, pAbs, pInt, pMax2, pMin2, plN, plIx, RPs, RPe, atP, getP, setP, setD, appD, okL, ixStep, eCall, eCallB, apN, fMv, fMvP, bName, bTup, bCons, bNil, wipeD, shd, frz, cIt, itE, eIsi, isiB, argsAt, restD, vsOk, Fl.val, nx, nxE, stp, isScal, updP, ← this]
theorem gp_gv {t : T2} {s e z y : Nat} : (gp t s e z y = true) ↔ 0 < gv t s e z y := by
  unfold gp gv; rw [decide_eq_true_eq]; omega
theorem lg_is {n : Nat} {t : T2} (hu : Un n t) : (gapsA n t).2 = lg n t := by
  have h := (gaps_act (n := n) (t := t) (0, none)).1
  have e : (gapsA n t).2 = (none : Option Qd).or _ := h
  rw [e, Option.none_or]
  unfold lg
  refine findSome_congr fun s hs => ?_
  have hs' := List.mem_range.mp hs
  rw [fs_cols hu hs']
  unfold lg2
  refine findSome_congr fun e' he => ?_
  unfold lg1 gf
  rw [← findSome_map]
  refine findSome_congr fun z hz => ?_
  rw [fs_cols hu hs']
  unfold gf1
  rw [← findSome_map]
  refine findSome_congr fun y hy => ?_
  by_cases c : 0 < gv t s e' z y
  · rw [if_pos c, if_pos (gp_gv.mpr c)]; rfl
  · rw [if_neg c, if_neg (fun q => c (gp_gv.mp q))]; rfl
theorem lg_none {n : Nat} {t : T2} (h : lg n t = none) : ∀ s e z y, s < n → e ∈ cols n t → z < n → y ∈ cols n t → gv t s e z y ≤ 0 := fun s e z y hs he hz hy => by
  have h1 := List.findSome?_eq_none_iff.mp h s (List.mem_range.mpr hs)
  have h2 := List.findSome?_eq_none_iff.mp h1 e he
  have h3 : gf n t s e = none := by
    unfold lg1 at h2
    cases q : gf n t s e with
    | none => rfl
    | some w => rw [q] at h2; cases h2
  have h4 := List.findSome?_eq_none_iff.mp h3 z (List.mem_range.mpr hz)
  have h5 := List.findSome?_eq_none_iff.mp h4 y hy
  by_cases c : gp t s e z y = true
  · rw [if_pos c] at h5; cases h5
  · exact Int.not_lt.mp (fun q => c (gp_gv.mpr q))
theorem rs_lg {n c : Nat} {t : T2} {r : List Nat} (hn1 : 1 ≤ n) (hc : cols n t = c :: r) : (rs n t c = true ↔ lg n t = none) := by
  have cm : c ∈ cols n t := by rw [hc]; exact List.mem_cons_self
  constructor
  · intro h
    have h' : ∀ x, x < n → ∀ e, e ∈ cols n t → vl t x e = vl t x c - vl t 0 c + vl t 0 e := fun x hx e he => by
      have := List.all_eq_true.mp (List.all_eq_true.mp h x (List.mem_range.mpr hx)) e he
      simpa [rsx, pc] using this
    cases q : lg n t with
    | none => rfl
    | some w =>
      exfalso
      obtain ⟨s, hs, q1⟩ := List.exists_of_findSome?_eq_some q
      obtain ⟨e, he, q2⟩ := List.exists_of_findSome?_eq_some q1
      have hs' := List.mem_range.mp hs
      unfold lg1 at q2
      cases q3 : gf n t s e with
      | none => rw [q3] at q2; cases q2
      | some w2 =>
        obtain ⟨z, hz, q4⟩ := List.exists_of_findSome?_eq_some q3
        obtain ⟨y, hy, q5⟩ := List.exists_of_findSome?_eq_some q4
        have hz' := List.mem_range.mp hz
        by_cases c2 : gp t s e z y = true
        · have := gp_gv.mp c2
          have a1 := h' s hs' e he
          have a2 := h' z hz' y hy
          have a3 := h' s hs' y hy
          have a4 := h' z hz' e he
          unfold gv at this
          omega
        · rw [if_neg c2] at q5; cases q5
  · intro h
    have g := lg_none h
    refine List.all_eq_true.mpr fun x hx => List.all_eq_true.mpr fun e he => ?_
    have hx' := List.mem_range.mp hx
    have a1 := g x e 0 c hx' he (by omega) cm
    have a2 := g x c 0 e hx' cm (by omega) he
    unfold gv at a1 a2
    simp only [rsx, pc, beq_iff_eq]
    omega
theorem mx_act (b : Int) : ∀ a, a ≤ mx a b ∧ (∀ g, g = b → g ≤ mx a b) ∧ (mx a b = a ∨ mx a b = b) := fun a => by
  unfold mx; split <;> refine ⟨by omega, fun g h => by omega, by omega⟩
theorem spr_act {n : Nat} {t : T2} : 0 ≤ spr n t ∧ (∀ g, (∃ x, x ∈ List.range n ∧ ∃ z, z ∈ List.range x ∧ g = wd n t x z) → g ≤ spr n t) ∧ (spr n t = 0 ∨ ∃ x, x ∈ List.range n ∧ ∃ z, z ∈ List.range x ∧ spr n t = wd n t x z) :=
  macts_fold (S := fun x g => ∃ z, z ∈ List.range x ∧ g = wd n t x z) (List.range n) (fun x _ a => macts_fold (S := fun z g => g = wd n t x z) (List.range x) (fun z _ a => mx_act _ a) a) 0
theorem gl_ne {n : Nat} {t : T2} (hc : cols n t ≠ []) (x z : Nat) : gl n t x z ≠ [] := by unfold gl; simpa using hc
theorem wd_ge {n : Nat} {t : T2} (hc : cols n t ≠ []) {x z e y : Nat} (he : e ∈ cols n t) (hy : y ∈ cols n t) : df t x z y - df t x z e ≤ wd n t x z := by
  have m1 := (maxI_spec (gl_ne hc x z)).2 (df t x z y) (List.mem_map.mpr ⟨y, hy, rfl⟩)
  have m2 := (minI_spec (gl_ne hc x z)).2 (df t x z e) (List.mem_map.mpr ⟨e, he, rfl⟩)
  unfold wd; omega
theorem wd_at {n : Nat} {t : T2} (hc : cols n t ≠ []) (x z : Nat) : ∃ e y, e ∈ cols n t ∧ y ∈ cols n t ∧ wd n t x z = df t x z y - df t x z e := by
  obtain ⟨y, hy, h1⟩ := List.mem_map.mp (maxI_spec (gl_ne hc x z)).1
  obtain ⟨e, he, h2⟩ := List.mem_map.mp (minI_spec (gl_ne hc x z)).1
  exact ⟨e, y, he, hy, by unfold wd; rw [← h1, ← h2]⟩
theorem spr_is {n : Nat} {t : T2} (hu : Un n t) (hc : cols n t ≠ []) : spr n t = (gapsA n t).1 := by
  obtain ⟨_, b2, b3, b4⟩ := gaps_act (n := n) (t := t) (0, none)
  have b2 : 0 ≤ (gapsA n t).1 := b2
  obtain ⟨a1, a2, a3⟩ := spr_act (n := n) (t := t)
  have c0 : ∀ s e, s < n → e ∈ cols n t → (t s e).isNone = false := fun s e hs he => by rw [un_some hu hs he]; rfl
  refine Int.le_antisymm ?_ ?_
  · rcases a3 with a3 | ⟨x, hx, z, hz, a3⟩
    · rw [a3]; exact b2
    · obtain ⟨e, y, he, hy, w⟩ := wd_at hc x z
      have hx' := List.mem_range.mp hx
      have hz' : z < n := by have := List.mem_range.mp hz; omega
      have := b3 (gv t x e z y) ⟨x, hx, e, List.mem_range.mpr (cols_mem.mp he).1, c0 x e hx' he, z, List.mem_range.mpr hz', y, List.mem_range.mpr (cols_mem.mp hy).1, c0 x y hx' hy, rfl⟩
      have this' : gv t x e z y ≤ (gapsA n t).1 := this
      rw [a3, w]
      unfold gv at this'
      unfold df
      omega
  · have b4 : (gapsA n t).1 = 0 ∨ _ := b4
    rcases b4 with b4 | ⟨s, hs, e, he, h1, z, hz, y, hy, h2, b4⟩
    · rw [b4]; exact a1
    · have hs' := List.mem_range.mp hs
      have hz' := List.mem_range.mp hz
      have hec := mem_c hu hs' (List.mem_range.mp he) h1
      have hyc := mem_c hu hs' (List.mem_range.mp hy) h2
      have b4' : (gapsA n t).1 = gv t s e z y := b4
      rw [b4']
      rcases Nat.lt_trichotomy s z with c | c | c
      · have w := wd_ge hc (x := z) (z := s) hyc hec
        have := a2 _ ⟨z, hz, s, List.mem_range.mpr c, rfl⟩
        unfold df at w; unfold gv; omega
      · subst c
        unfold gv; omega
      · have w := wd_ge hc (x := s) (z := z) hec hyc
        have := a2 _ ⟨s, hs, z, List.mem_range.mpr c, rfl⟩
        unfold df at w; unfold gv; omega
end K14


set_option Elab.async false
set_option linter.all false
set_option maxRecDepth 100000
set_option maxHeartbeats 4000000
namespace K14
open DP L2 Evl
theorem same_ok {b : D} (h : pld 7 b = true) : ∃ ds, f_law_same 8 [b, b] = .ok (.bl true) ds := by
  have := same_refl 7 b h
  cases q : f_law_same 8 [b, b] with
  | ok d ds => rw [q] at this; cases this; exact ⟨ds, rfl⟩
  | exc e ds => rw [q] at this; cases this
  | stk => rw [q] at this; cases this
theorem lend_same {a b : D} (h1 : frz a = b) (h : pld 7 b = true) : lend 2 (f_law_same 8) [a, b] = .ok (.bl true) := by
  obtain ⟨ds, e⟩ := same_ok h
  have e2 : frzs [a, b] = [b, b] := by
    have : frz b = b := frz_shd (pld_shd h)
    simp [sSeq, sForget, sIf, sSet, sRet, sPass, sCont, sBreak, sRetN, sDrop, sSetIx, sApp, sAsg, lf, eTest, eTru, toBl, eOp2, eV, eC, eSh, toShd, eFz, fFz, eIf, fIf, fTest, fOp2, eAnd, eOr, eNot, eAndV, eOrV, eNotV, eTup, eLst, eNil, eCons, fNil, fCons, fTup, fLst, eCB, fCB, eUn, pNeg, eSl, oNone, oSome, toIntO, pSub, pMul, pDiv, pMod, pPow, pLt, pLe, pGt, pGe, intOp, cT, cDiv, cMod, cPow, pAbs, pInt, pMax2, pMin2, plN, plIx, RPs, RPe, atP, getP, setP, setD, appD, okL, ixStep, eCall, eCallB, apN, fMv, fMvP, bName, bTup, bCons, bNil, wipeD, shd, frz, cIt, itE, eIsi, isiB, argsAt, restD, vsOk, Fl.val, nx, nxE, stp, isScal, updP, h1, this]
  unfold lend
  rw [if_pos (show [a, b].length = 2 from rfl), e2, e]
  rfl
/-- the state ahead of a turn, with the table and what is due -/
def le (S A B C E : D) (l : List D) : DP.Env := S :: A :: B :: C :: E :: l
theorem cpy {n : Nat} {t : T2} {S A B C E u : D} (hn : n ≤ 6) : sSet 7 (lf (eFz (eLc (cIt itL (eV 5)) (bName 12) eYes (eCB pList (eCons (eV 12) eNil)) [12]))) [S, A, B, C, E, tb false n t, u, .unk, .unk, .unk, .unk, .unk, .unk] = .nx [S, A, B, C, E, tb false n t, u, tb false n t, .unk, .unk, .unk, .unk, .unk] := by
  have e : eLc (cIt itL (eV 5)) (bName 12) eYes (eCB pList (eCons (eV 12) eNil)) [12] [S, A, B, C, E, tb false n t, u, .unk, .unk, .unk, .unk, .unk, .unk] = .ok (tb true n t) := by
    refine eLc_ok (ds := (List.range n).map fun x => rowD false n (t x)) (by simp [sSeq, sForget, sIf, sSet, sRet, sPass, sCont, sBreak, sRetN, sDrop, sSetIx, sApp, sAsg, lf, eTest, eTru, toBl, eOp2, eV, eC, eSh, toShd, eFz, fFz, eIf, fIf, fTest, fOp2, eAnd, eOr, eNot, eAndV, eOrV, eNotV, eTup, eLst, eNil, eCons, fNil, fCons, fTup, fLst, eCB, fCB, eUn, pNeg, eSl, oNone, oSome, toIntO, pSub, pMul, pDiv, pMod, pPow, pLt, pLe, pGt, pGe, intOp, cT, cDiv, cMod, cPow, pAbs, pInt, pMax2, pMin2, plN, plIx, RPs, RPe, atP, getP, setP, setD, appD, okL, ixStep, eCall, eCallB, apN, fMv, fMvP, bName, bTup, bCons, bNil, wipeD, shd, frz, cIt, itE, eIsi, isiB, argsAt, restD, vsOk, Fl.val, nx, nxE, stp, isScal, updP, itL_tb (o := false)]) (by simp [sSeq, sForget, sIf, sSet, sRet, sPass, sCont, sBreak, sRetN, sDrop, sSetIx, sApp, sAsg, lf, eTest, eTru, toBl, eOp2, eV, eC, eSh, toShd, eFz, fFz, eIf, fIf, fTest, fOp2, eAnd, eOr, eNot, eAndV, eOrV, eNotV, eTup, eLst, eNil, eCons, fNil, fCons, fTup, fLst, eCB, fCB, eUn, pNeg, eSl, oNone, oSome, toIntO, pSub, pMul, pDiv, pMod, pPow, pLt, pLe, pGt, pGe, intOp, cT, cDiv, cMod, cPow, pAbs, pInt, pMax2, pMin2, plN, plIx, RPs, RPe, atP, getP, setP, setD, appD, okL, ixStep, eCall, eCallB, apN, fMv, fMvP, bName, bTup, bCons, bNil, wipeD, shd, frz, cIt, itE, eIsi, isiB, argsAt, restD, vsOk, Fl.val, nx, nxE, stp, isScal, updP]; exact size_ok (by omega)) ?_
    refine lcGo_all _ (fun x hx => ⟨_, rfl, ?_⟩)
    simp [sSeq, sForget, sIf, sSet, sRet, sPass, sCont, sBreak, sRetN, sDrop, sSetIx, sApp, sAsg, lf, eTest, eTru, toBl, eOp2, eV, eC, eSh, toShd, eFz, fFz, eIf, fIf, fTest, fOp2, eAnd, eOr, eNot, eAndV, eOrV, eNotV, eTup, eLst, eNil, eCons, fNil, fCons, fTup, fLst, eCB, fCB, eUn, pNeg, eSl, oNone, oSome, toIntO, pSub, pMul, pDiv, pMod, pPow, pLt, pLe, pGt, pGe, intOp, cT, cDiv, cMod, cPow, pAbs, pInt, pMax2, pMin2, plN, plIx, RPs, RPe, atP, getP, setP, setD, appD, okL, ixStep, eCall, eCallB, apN, fMv, fMvP, bName, bTup, bCons, bNil, wipeD, shd, frz, cIt, itE, eIsi, isiB, argsAt, restD, vsOk, Fl.val, nx, nxE, stp, isScal, updP, list_row]
  unfold sSet lf eFz
  rw [e]; simp [sSeq, sForget, sIf, sSet, sRet, sPass, sCont, sBreak, sRetN, sDrop, sSetIx, sApp, sAsg, lf, eTest, eTru, toBl, eOp2, eV, eC, eSh, toShd, eFz, fFz, eIf, fIf, fTest, fOp2, eAnd, eOr, eNot, eAndV, eOrV, eNotV, eTup, eLst, eNil, eCons, fNil, fCons, fTup, fLst, eCB, fCB, eUn, pNeg, eSl, oNone, oSome, toIntO, pSub, pMul, pDiv, pMod, pPow, pLt, pLe, pGt, pGe, intOp, cT, cDiv, cMod, cPow, pAbs, pInt, pMax2, pMin2, plN, plIx, RPs, RPe, atP, getP, setP, setD, appD, okL, ixStep, eCall, eCallB, apN, fMv, fMvP, bName, bTup, bCons, bNil, wipeD, shd, frz, cIt, itE, eIsi, isiB, argsAt, restD, vsOk, Fl.val, nx, nxE, stp, isScal, updP]
theorem pld_tb {n : Nat} {t : T2} (hn : n ≤ 6) : pld 7 (tb false n t) = true := by
  have h1 : ∀ o : Option Int, pld 5 (oD o) = true := fun o => by cases o <;> rfl
  have h2 : ∀ f, pld 6 (rowD false n f) = true := fun f => by
    simp only [rowD, pld, List.length_map, List.length_range, Bool.and_eq_true, decide_eq_true_eq, List.all_map]
    exact ⟨by omega, List.all_eq_true.mpr fun x _ => h1 _⟩
  simp only [tb, pld, List.length_map, List.length_range, Bool.and_eq_true, decide_eq_true_eq, List.all_map]
  exact ⟨by omega, List.all_eq_true.mpr fun x _ => h2 _⟩
theorem checks {n : Nat} {t : T2} {S A B C E told x y : D} (hn : n ≤ 6) (hw : (f_wall_of [tb false n t]).dr = .ok told) (hs : (f_spread_of [tb false n t]).dr = .ok y) (hf : frz told = x) (hx : pld 7 x = true) (hy : pld 7 y = true) (ht : told ≠ .unk) {g : DP.Env → Fl} {r : Fl} (h : g [S, A, B, C, E, tb false n t, .tup [x, y], tb false n t, told, .unk, .unk, .unk, .unk] = r) :
    sSeq (sSet 7 (lf (eFz (eLc (cIt itL (eV 5)) (bName 12) eYes (eCB pList (eCons (eV 12) eNil)) [12]))))
    (sSeq (sSet 8 (lf (eCall 1 f_wall_of (eCons (eV 7) eNil))))
    (sSeq (sIf (lf (eOr (eNot (eTru (eCallB 2 (f_law_same 8) (eCons (eP 8) (eCons (eOp2 pIx (eV 6) (eC (.int 0))) eNil))))) (eNot (eTru (eCall 2 (f_law_same 8) (eCons (eCall 1 f_spread_of (eCons (eV 7) eNil)) (eCons (eOp2 pIx (eV 6) (eC (.int 1))) eNil)))))))
    (sRet (lf (eC (.bl false))))
    sPass)
    (sSeq (sIf (lf (eNot (eTru (eCall 2 (f_law_same 8) (eCons (eV 7) (eCons (eV 5) eNil))))))
    (sRet (lf (eC (.bl false))))
    sPass) g))) [S, A, B, C, E, tb false n t, .tup [x, y], .unk, .unk, .unk, .unk, .unk, .unk] = r := by
  have sx := pld_shd hx
  have sy := pld_shd hy
  have l1 := lend_same hf hx
  have l2 := same_refl 7 y hy
  have l3 := same_refl 7 (tb false n t) (pld_tb hn)
  have kt := known_ok ht
  refine seq_nx (cpy hn) (seq_nx (e := [S, A, B, C, E, tb false n t, .tup [x, y], tb false n t, told, .unk, .unk, .unk, .unk]) (by simp [sSeq, sForget, sIf, sSet, sRet, sPass, sCont, sBreak, sRetN, sDrop, sSetIx, sApp, sAsg, lf, eTest, eTru, toBl, eOp2, eV, eC, eSh, toShd, eFz, fFz, eIf, fIf, fTest, fOp2, eAnd, eOr, eNot, eAndV, eOrV, eNotV, eTup, eLst, eNil, eCons, fNil, fCons, fTup, fLst, eCB, fCB, eUn, pNeg, eSl, oNone, oSome, toIntO, pSub, pMul, pDiv, pMod, pPow, pLt, pLe, pGt, pGe, intOp, cT, cDiv, cMod, cPow, pAbs, pInt, pMax2, pMin2, plN, plIx, RPs, RPe, atP, getP, setP, setD, appD, okL, ixStep, eCall, eCallB, apN, fMv, fMvP, bName, bTup, bCons, bNil, wipeD, shd, frz, cIt, itE, eIsi, isiB, argsAt, restD, vsOk, Fl.val, nx, nxE, stp, isScal, updP, hw]) (seq_nx (e := [S, A, B, C, E, tb false n t, .tup [x, y], tb false n t, told, .unk, .unk, .unk, .unk]) ?_ (seq_nx (e := [S, A, B, C, E, tb false n t, .tup [x, y], tb false n t, told, .unk, .unk, .unk, .unk]) (by simp [sSeq, sForget, sIf, sSet, sRet, sPass, sCont, sBreak, sRetN, sDrop, sSetIx, sApp, sAsg, lf, eTest, eTru, toBl, eOp2, eV, eC, eSh, toShd, eFz, fFz, eIf, fIf, fTest, fOp2, eAnd, eOr, eNot, eAndV, eOrV, eNotV, eTup, eLst, eNil, eCons, fNil, fCons, fTup, fLst, eCB, fCB, eUn, pNeg, eSl, oNone, oSome, toIntO, pSub, pMul, pDiv, pMod, pPow, pLt, pLe, pGt, pGe, intOp, cT, cDiv, cMod, cPow, pAbs, pInt, pMax2, pMin2, plN, plIx, RPs, RPe, atP, getP, setP, setD, appD, okL, ixStep, eCall, eCallB, apN, fMv, fMvP, bName, bTup, bCons, bNil, wipeD, shd, frz, cIt, itE, eIsi, isiB, argsAt, restD, vsOk, Fl.val, nx, nxE, stp, isScal, updP, l3]) h)))
  simp [sSeq, sForget, sIf, sSet, sRet, sPass, sCont, sBreak, sRetN, sDrop, sSetIx, sApp, sAsg, lf, eTest, eTru, toBl, eOp2, eV, eC, eSh, toShd, eFz, fFz, eIf, fIf, fTest, fOp2, eAnd, eOr, eNot, eAndV, eOrV, eNotV, eTup, eLst, eNil, eCons, fNil, fCons, fTup, fLst, eCB, fCB, eUn, pNeg, eSl, oNone, oSome, toIntO, pSub, pMul, pDiv, pMod, pPow, pLt, pLe, pGt, pGe, intOp, cT, cDiv, cMod, cPow, pAbs, pInt, pMax2, pMin2, plN, plIx, RPs, RPe, atP, getP, setP, setD, appD, okL, ixStep, eCall, eCallB, apN, fMv, fMvP, bName, bTup, bCons, bNil, wipeD, shd, frz, cIt, itE, eIsi, isiB, argsAt, restD, vsOk, Fl.val, nx, nxE, stp, isScal, updP, sx, sy, kt, l1, l2, hs, atI, ixN]
theorem round_plain {n : Nat} {t : T2} {S A B C E told y : D} {w : PySem.Str} {l : List D} (hn : n ≤ 6) (hw : (f_wall_of [tb false n t]).dr = .ok told) (hs : (f_spread_of [tb false n t]).dr = .ok y) (hf : frz told = .tup (.str w :: l)) (hx : pld 7 (.tup (.str w :: l)) = true) (hy : pld 7 y = true) (hne : (w == ("wall" : PySem.Str)) = false) (hwl : (PySem.PyData.str w).canLay0 = true) :
    b3_law [S, A, B, C, E, tb false n t, .tup [.tup (.str w :: l), y], .unk, .unk, .unk, .unk, .unk, .unk] = .nx [S, A, B, C, E, .unk, .unk, .unk, .unk, .unk, .unk, .unk, .unk] := by
  have ht : told ≠ .unk := fun z => by rw [z] at hf; cases hf
  unfold b3_law
  refine forget_nx (e := [S, A, B, C, E, tb false n t, .tup [.tup (.str w :: l), y], tb false n t, told, .unk, .unk, .unk, .unk]) (checks hn hw hs hf hx hy ht ?_)
  refine forget_nx (e := [S, A, B, C, E, tb false n t, .tup [.tup (.str w :: l), y], tb false n t, told, .unk, .unk, .unk, .unk]) ?_
  have sx := pld_shd hx
  have sy := pld_shd hy
  have wl : (PySem.PyData.str ("wall" : PySem.Str)).canLay0 = true := by decide +kernel
  have pe := pEq_str hwl wl
  rw [hne] at pe
  have i0 : atI (D.str w :: l) 0 = some (.str w) := by unfold atI ixN; simp [sSeq, sForget, sIf, sSet, sRet, sPass, sCont, sBreak, sRetN, sDrop, sSetIx, sApp, sAsg, lf, eTest, eTru, toBl, eOp2, eV, eC, eSh, toShd, eFz, fFz, eIf, fIf, fTest, fOp2, eAnd, eOr, eNot, eAndV, eOrV, eNotV, eTup, eLst, eNil, eCons, fNil, fCons, fTup, fLst, eCB, fCB, eUn, pNeg, eSl, oNone, oSome, toIntO, pSub, pMul, pDiv, pMod, pPow, pLt, pLe, pGt, pGe, intOp, cT, cDiv, cMod, cPow, pAbs, pInt, pMax2, pMin2, plN, plIx, RPs, RPe, atP, getP, setP, setD, appD, okL, ixStep, eCall, eCallB, apN, fMv, fMvP, bName, bTup, bCons, bNil, wipeD, shd, frz, cIt, itE, eIsi, isiB, argsAt, restD, vsOk, Fl.val, nx, nxE, stp, isScal, updP]
  have i1 : atI [D.tup (.str w :: l), y] 0 = some (.tup (.str w :: l)) := rfl
  have sx' : shds l = true := by simpa [shd] using sx
  simp [sSeq, sForget, sIf, sSet, sRet, sPass, sCont, sBreak, sRetN, sDrop, sSetIx, sApp, sAsg, lf, eTest, eTru, toBl, eOp2, eV, eC, eSh, toShd, eFz, fFz, eIf, fIf, fTest, fOp2, eAnd, eOr, eNot, eAndV, eOrV, eNotV, eTup, eLst, eNil, eCons, fNil, fCons, fTup, fLst, eCB, fCB, eUn, pNeg, eSl, oNone, oSome, toIntO, pSub, pMul, pDiv, pMod, pPow, pLt, pLe, pGt, pGe, intOp, cT, cDiv, cMod, cPow, pAbs, pInt, pMax2, pMin2, plN, plIx, RPs, RPe, atP, getP, setP, setD, appD, okL, ixStep, eCall, eCallB, apN, fMv, fMvP, bName, bTup, bCons, bNil, wipeD, shd, frz, cIt, itE, eIsi, isiB, argsAt, restD, vsOk, Fl.val, nx, nxE, stp, isScal, updP, sx', sy, i0, i1, pe]
def tl (n : Nat) (t : T2) (c : Nat) : D := .tup [.str "wall", pD n t c, rowD true n (t 0)]
@[simp] theorem known_tl {n c : Nat} {t : T2} : known (some (tl n t c)) = .ok (tl n t c) := rfl
def wl (S A B C E due : D) (n : Nat) (t : T2) (c : Nat) (l : List D) : DP.Env := S :: A :: B :: C :: E :: tb false n t :: due :: tb false n t :: tl n t c :: l
theorem wall_in {n c s : Nat} {t : T2} {S A B C E due : D} {r : List Nat} (hn : n ≤ 6) (hu : Un n t) (hc : cols n t = c :: r) (hr : rs n t c = true) (hs : s < n) :
    sForget (sFor (cItA itR1 (eCons (eCB pLen (eCons (eV 5) eNil)) eNil)) (bName 10) b1_law) [10, 11] (wl S A B C E due n t c [.int s, .unk, .unk, .unk]) = .nx (wl S A B C E due n t c [.int s, .unk, .unk, .unk]) := by
  have lp := forGo_find (b := bName 10) (f := b1_law) (item := fun e : Nat => .int (e : Nat)) (E := wl S A B C E due n t c [.int s, .unk, .unk, .unk]) (h := fun _ => none) (List.range n) (fun e he => by
    have he' := List.mem_range.mp he
    left
    have E0 : stp (bName 10) b1_law (.int (e : Nat)) (wl S A B C E due n t c [.int s, .unk, .unk, .unk]) = b1_law (wl S A B C E due n t c [.int s, .int e, .unk, .unk]) := stp_name.trans (congrArg b1_law rfl)
    rw [E0]
    have i1 : pIx (tl n t c) (.int 1) = .ok (pD n t c) := by simp [sSeq, sForget, sIf, sSet, sRet, sPass, sCont, sBreak, sRetN, sDrop, sSetIx, sApp, sAsg, lf, eTest, eTru, toBl, eOp2, eV, eC, eSh, toShd, eFz, fFz, eIf, fIf, fTest, fOp2, eAnd, eOr, eNot, eAndV, eOrV, eNotV, eTup, eLst, eNil, eCons, fNil, fCons, fTup, fLst, eCB, fCB, eUn, pNeg, eSl, oNone, oSome, toIntO, pSub, pMul, pDiv, pMod, pPow, pLt, pLe, pGt, pGe, intOp, cT, cDiv, cMod, cPow, pAbs, pInt, pMax2, pMin2, plN, plIx, RPs, RPe, atP, getP, setP, setD, appD, okL, ixStep, eCall, eCallB, apN, fMv, fMvP, bName, bTup, bCons, bNil, wipeD, shd, frz, cIt, itE, eIsi, isiB, argsAt, restD, vsOk, Fl.val, nx, nxE, stp, isScal, updP, tl, atI, ixN]
    have i2 : pIx (tl n t c) (.int 2) = .ok (rowD true n (t 0)) := by simp [sSeq, sForget, sIf, sSet, sRet, sPass, sCont, sBreak, sRetN, sDrop, sSetIx, sApp, sAsg, lf, eTest, eTru, toBl, eOp2, eV, eC, eSh, toShd, eFz, fFz, eIf, fIf, fTest, fOp2, eAnd, eOr, eNot, eAndV, eOrV, eNotV, eTup, eLst, eNil, eCons, fNil, fCons, fTup, fLst, eCB, fCB, eUn, pNeg, eSl, oNone, oSome, toIntO, pSub, pMul, pDiv, pMod, pPow, pLt, pLe, pGt, pGe, intOp, cT, cDiv, cMod, cPow, pAbs, pInt, pMax2, pMin2, plN, plIx, RPs, RPe, atP, getP, setP, setD, appD, okL, ixStep, eCall, eCallB, apN, fMv, fMvP, bName, bTup, bCons, bNil, wipeD, shd, frz, cIt, itE, eIsi, isiB, argsAt, restD, vsOk, Fl.val, nx, nxE, stp, isScal, updP, tl, atI, ixN]
    have a1 := ix_p (t := t) (c := c) hs
    have a2 := ix_row (o := true) (f := t 0) he'
    have a3 := ix_tb (o := false) (t := t) hs
    have a4 := ix_row (o := false) (f := t s) he'
    cases q : t 0 e with
    | none =>
      have q2 : t s e = none := by
        have := hu s hs e he'
        rw [q] at this
        cases w : t s e with
        | none => rfl
        | some v => rw [w] at this; cases this
      rw [q] at a2
      rw [q2] at a4
      have sm := same_refl 7 .non rfl
      simp only [oD_none] at a2 a4
      simp [sSeq, sForget, sIf, sSet, sRet, sPass, sCont, sBreak, sRetN, sDrop, sSetIx, sApp, sAsg, lf, eTest, eTru, toBl, eOp2, eV, eC, eSh, toShd, eFz, fFz, eIf, fIf, fTest, fOp2, eAnd, eOr, eNot, eAndV, eOrV, eNotV, eTup, eLst, eNil, eCons, fNil, fCons, fTup, fLst, eCB, fCB, eUn, pNeg, eSl, oNone, oSome, toIntO, pSub, pMul, pDiv, pMod, pPow, pLt, pLe, pGt, pGe, intOp, cT, cDiv, cMod, cPow, pAbs, pInt, pMax2, pMin2, plN, plIx, RPs, RPe, atP, getP, setP, setD, appD, okL, ixStep, eCall, eCallB, apN, fMv, fMvP, bName, bTup, bCons, bNil, wipeD, shd, frz, cIt, itE, eIsi, isiB, argsAt, restD, vsOk, Fl.val, nx, nxE, stp, isScal, updP, b1_law, wl, i1, i2, a1, a2, a3, a4, sm]
    | some v =>
      have hec : e ∈ cols n t := cols_mem.mpr ⟨he', by rw [q]; exact fun z => nomatch z⟩
      have w1 := un_some hu hs hec
      have w2 : vl t 0 e = v := by unfold vl; rw [q]; rfl
      have w3 : vl t s e = pc t c s + v := by
        have := List.all_eq_true.mp (List.all_eq_true.mp hr s (List.mem_range.mpr hs)) e hec
        rw [← w2]
        simpa [rsx] using this
      rw [q] at a2
      rw [w1, w3] at a4
      simp only [oD_some] at a2 a4
      have sm := same_refl 7 (.int (pc t c s + v)) rfl
      simp [sSeq, sForget, sIf, sSet, sRet, sPass, sCont, sBreak, sRetN, sDrop, sSetIx, sApp, sAsg, lf, eTest, eTru, toBl, eOp2, eV, eC, eSh, toShd, eFz, fFz, eIf, fIf, fTest, fOp2, eAnd, eOr, eNot, eAndV, eOrV, eNotV, eTup, eLst, eNil, eCons, fNil, fCons, fTup, fLst, eCB, fCB, eUn, pNeg, eSl, oNone, oSome, toIntO, pSub, pMul, pDiv, pMod, pPow, pLt, pLe, pGt, pGe, intOp, cT, cDiv, cMod, cPow, pAbs, pInt, pMax2, pMin2, plN, plIx, RPs, RPe, atP, getP, setP, setD, appD, okL, ixStep, eCall, eCallB, apN, fMv, fMvP, bName, bTup, bCons, bNil, wipeD, shd, frz, cIt, itE, eIsi, isiB, argsAt, restD, vsOk, Fl.val, nx, nxE, stp, isScal, updP, b1_law, wl, i1, i2, a1, a2, a3, a4, sm])
  have e2 : (List.range n).findSome? (fun _ : Nat => (none : Option D)) = none := by simp [sSeq, sForget, sIf, sSet, sRet, sPass, sCont, sBreak, sRetN, sDrop, sSetIx, sApp, sAsg, lf, eTest, eTru, toBl, eOp2, eV, eC, eSh, toShd, eFz, fFz, eIf, fIf, fTest, fOp2, eAnd, eOr, eNot, eAndV, eOrV, eNotV, eTup, eLst, eNil, eCons, fNil, fCons, fTup, fLst, eCB, fCB, eUn, pNeg, eSl, oNone, oSome, toIntO, pSub, pMul, pDiv, pMod, pPow, pLt, pLe, pGt, pGe, intOp, cT, cDiv, cMod, cPow, pAbs, pInt, pMax2, pMin2, plN, plIx, RPs, RPe, atP, getP, setP, setD, appD, okL, ixStep, eCall, eCallB, apN, fMv, fMvP, bName, bTup, bCons, bNil, wipeD, shd, frz, cIt, itE, eIsi, isiB, argsAt, restD, vsOk, Fl.val, nx, nxE, stp, isScal, updP]
  rw [e2] at lp
  have src : cItA itR1 (eCons (eCB pLen (eCons (eV 5) eNil)) eNil) (wl S A B C E due n t c [.int s, .unk, .unk, .unk]) = .ok ((List.range n).map fun i => .int (i : Nat)) := rng1 (n := n) (by simp [sSeq, sForget, sIf, sSet, sRet, sPass, sCont, sBreak, sRetN, sDrop, sSetIx, sApp, sAsg, lf, eTest, eTru, toBl, eOp2, eV, eC, eSh, toShd, eFz, fFz, eIf, fIf, fTest, fOp2, eAnd, eOr, eNot, eAndV, eOrV, eNotV, eTup, eLst, eNil, eCons, fNil, fCons, fTup, fLst, eCB, fCB, eUn, pNeg, eSl, oNone, oSome, toIntO, pSub, pMul, pDiv, pMod, pPow, pLt, pLe, pGt, pGe, intOp, cT, cDiv, cMod, cPow, pAbs, pInt, pMax2, pMin2, plN, plIx, RPs, RPe, atP, getP, setP, setD, appD, okL, ixStep, eCall, eCallB, apN, fMv, fMvP, bName, bTup, bCons, bNil, wipeD, shd, frz, cIt, itE, eIsi, isiB, argsAt, restD, vsOk, Fl.val, nx, nxE, stp, isScal, updP, wl]) (by omega)
  exact forget_nx ((sFor_ok src).trans lp)
theorem wall_out {n c : Nat} {t : T2} {S A B C E due : D} {r : List Nat} (hn : n ≤ 6) (hu : Un n t) (hc : cols n t = c :: r) (hr : rs n t c = true) :
    sForget (sFor (cItA itR1 (eCons (eCB pLen (eCons (eV 5) eNil)) eNil)) (bName 9) b2_law) [9, 10, 11] (wl S A B C E due n t c [.unk, .unk, .unk, .unk]) = .nx (wl S A B C E due n t c [.unk, .unk, .unk, .unk]) := by
  have lp := forGo_find (b := bName 9) (f := b2_law) (item := fun e : Nat => .int (e : Nat)) (E := wl S A B C E due n t c [.unk, .unk, .unk, .unk]) (h := fun _ => none) (List.range n) (fun s hs => by
    left
    have E0 : stp (bName 9) b2_law (.int (s : Nat)) (wl S A B C E due n t c [.unk, .unk, .unk, .unk]) = b2_law (wl S A B C E due n t c [.int s, .unk, .unk, .unk]) := stp_name.trans (congrArg b2_law rfl)
    rw [E0]
    exact forget_nx (wall_in hn hu hc hr (List.mem_range.mp hs)))
  have e2 : (List.range n).findSome? (fun _ : Nat => (none : Option D)) = none := by simp [sSeq, sForget, sIf, sSet, sRet, sPass, sCont, sBreak, sRetN, sDrop, sSetIx, sApp, sAsg, lf, eTest, eTru, toBl, eOp2, eV, eC, eSh, toShd, eFz, fFz, eIf, fIf, fTest, fOp2, eAnd, eOr, eNot, eAndV, eOrV, eNotV, eTup, eLst, eNil, eCons, fNil, fCons, fTup, fLst, eCB, fCB, eUn, pNeg, eSl, oNone, oSome, toIntO, pSub, pMul, pDiv, pMod, pPow, pLt, pLe, pGt, pGe, intOp, cT, cDiv, cMod, cPow, pAbs, pInt, pMax2, pMin2, plN, plIx, RPs, RPe, atP, getP, setP, setD, appD, okL, ixStep, eCall, eCallB, apN, fMv, fMvP, bName, bTup, bCons, bNil, wipeD, shd, frz, cIt, itE, eIsi, isiB, argsAt, restD, vsOk, Fl.val, nx, nxE, stp, isScal, updP]
  rw [e2] at lp
  have src : cItA itR1 (eCons (eCB pLen (eCons (eV 5) eNil)) eNil) (wl S A B C E due n t c [.unk, .unk, .unk, .unk]) = .ok ((List.range n).map fun i => .int (i : Nat)) := rng1 (n := n) (by simp [sSeq, sForget, sIf, sSet, sRet, sPass, sCont, sBreak, sRetN, sDrop, sSetIx, sApp, sAsg, lf, eTest, eTru, toBl, eOp2, eV, eC, eSh, toShd, eFz, fFz, eIf, fIf, fTest, fOp2, eAnd, eOr, eNot, eAndV, eOrV, eNotV, eTup, eLst, eNil, eCons, fNil, fCons, fTup, fLst, eCB, fCB, eUn, pNeg, eSl, oNone, oSome, toIntO, pSub, pMul, pDiv, pMod, pPow, pLt, pLe, pGt, pGe, intOp, cT, cDiv, cMod, cPow, pAbs, pInt, pMax2, pMin2, plN, plIx, RPs, RPe, atP, getP, setP, setD, appD, okL, ixStep, eCall, eCallB, apN, fMv, fMvP, bName, bTup, bCons, bNil, wipeD, shd, frz, cIt, itE, eIsi, isiB, argsAt, restD, vsOk, Fl.val, nx, nxE, stp, isScal, updP, wl]) (by omega)
  exact forget_nx ((sFor_ok src).trans lp)
def tl2 (n : Nat) (t : T2) (c : Nat) : D := .tup [.str "wall", .own (((List.range n).map fun x => D.int (pc t c x)).set 0 (.int 5)), rowD true n (t 0)]
theorem wall_set {n c : Nat} {t : T2} {S A B C E due : D} (hn1 : 1 ≤ n) : sSetIx 8 (lf (eC (.int 5))) (plIx 8 (plN 8) (eC (.int 1))) (lf (eC (.int 0))) (wl S A B C E due n t c [.unk, .unk, .unk, .unk]) = .nx [S, A, B, C, E, tb false n t, due, tb false n t, tl2 n t c, .unk, .unk, .unk, .unk] := by
  have h0 : ixN n 0 = some 0 := ixN_ok (k := 0) (by omega)
  have h1 : ixN 3 1 = some 1 := rfl
  simp [sSeq, sForget, sIf, sSet, sRet, sPass, sCont, sBreak, sRetN, sDrop, sSetIx, sApp, sAsg, lf, eTest, eTru, toBl, eOp2, eV, eC, eSh, toShd, eFz, fFz, eIf, fIf, fTest, fOp2, eAnd, eOr, eNot, eAndV, eOrV, eNotV, eTup, eLst, eNil, eCons, fNil, fCons, fTup, fLst, eCB, fCB, eUn, pNeg, eSl, oNone, oSome, toIntO, pSub, pMul, pDiv, pMod, pPow, pLt, pLe, pGt, pGe, intOp, cT, cDiv, cMod, cPow, pAbs, pInt, pMax2, pMin2, plN, plIx, RPs, RPe, atP, getP, setP, setD, appD, okL, ixStep, eCall, eCallB, apN, fMv, fMvP, bName, bTup, bCons, bNil, wipeD, shd, frz, cIt, itE, eIsi, isiB, argsAt, restD, vsOk, Fl.val, nx, nxE, stp, isScal, updP, wl, tl, tl2, pD, h0, h1]
theorem wall_app {n c : Nat} {t : T2} {S A B C E due : D} (hn : n ≤ 6) : ∃ x, sApp 8 (plIx 8 (plN 8) (eC (.int 2))) (lf (eC (.int 1))) [S, A, B, C, E, tb false n t, due, tb false n t, tl2 n t c, .unk, .unk, .unk, .unk] = .nx [S, A, B, C, E, tb false n t, due, tb false n t, x, .unk, .unk, .unk, .unk] := by
  have hz : n < PySem.sizeLine := sz_lt (by omega)
  have h1 : ixN 3 2 = some 2 := rfl
  refine ⟨.tup [.str "wall", .own (((List.range n).map fun x => D.int (pc t c x)).set 0 (.int 5)), .own (((List.range n).map fun e => oD (t 0 e)) ++ [.int 1])], ?_⟩
  simp [sSeq, sForget, sIf, sSet, sRet, sPass, sCont, sBreak, sRetN, sDrop, sSetIx, sApp, sAsg, lf, eTest, eTru, toBl, eOp2, eV, eC, eSh, toShd, eFz, fFz, eIf, fIf, fTest, fOp2, eAnd, eOr, eNot, eAndV, eOrV, eNotV, eTup, eLst, eNil, eCons, fNil, fCons, fTup, fLst, eCB, fCB, eUn, pNeg, eSl, oNone, oSome, toIntO, pSub, pMul, pDiv, pMod, pPow, pLt, pLe, pGt, pGe, intOp, cT, cDiv, cMod, cPow, pAbs, pInt, pMax2, pMin2, plN, plIx, RPs, RPe, atP, getP, setP, setD, appD, okL, ixStep, eCall, eCallB, apN, fMv, fMvP, bName, bTup, bCons, bNil, wipeD, shd, frz, cIt, itE, eIsi, isiB, argsAt, restD, vsOk, Fl.val, nx, nxE, stp, isScal, updP, tl2, rowD, h1, hz]
theorem canWall : (PySem.PyData.str ("wall" : PySem.Str)).canLay0 = true := by decide +kernel
theorem canGap : (PySem.PyData.str ("gap" : PySem.Str)).canLay0 = true := by decide +kernel
theorem canCol : (PySem.PyData.str ("column" : PySem.Str)).canLay0 = true := by decide +kernel
theorem canEnd : (PySem.PyData.str ("endless" : PySem.Str)).canLay0 = true := by decide +kernel
def dwx (n : Nat) (t : T2) (c : Nat) : D := .tup [.str "wall", plD n t c, rowD false n (t 0)]
theorem pld_dwx {n c : Nat} {t : T2} (hn : n ≤ 6) : pld 7 (dwx n t c) = true := by
  have h1 : ∀ o : Option Int, pld 5 (oD o) = true := fun o => by cases o <;> rfl
  have h2 : pld 6 (rowD false n (t 0)) = true := by
    simp only [rowD, pld, List.length_map, List.length_range, Bool.and_eq_true, decide_eq_true_eq, List.all_map]
    exact ⟨by omega, List.all_eq_true.mpr fun x _ => h1 _⟩
  have h3 : pld 6 (plD n t c) = true := by
    simp only [plD, pld, List.length_map, List.length_range, Bool.and_eq_true, decide_eq_true_eq, List.all_map]
    exact ⟨by omega, List.all_eq_true.mpr fun x _ => rfl⟩
  have h4 : pld 6 (.str "wall") = true := canWall
  simp [sSeq, sForget, sIf, sSet, sRet, sPass, sCont, sBreak, sRetN, sDrop, sSetIx, sApp, sAsg, lf, eTest, eTru, toBl, eOp2, eV, eC, eSh, toShd, eFz, fFz, eIf, fIf, fTest, fOp2, eAnd, eOr, eNot, eAndV, eOrV, eNotV, eTup, eLst, eNil, eCons, fNil, fCons, fTup, fLst, eCB, fCB, eUn, pNeg, eSl, oNone, oSome, toIntO, pSub, pMul, pDiv, pMod, pPow, pLt, pLe, pGt, pGe, intOp, cT, cDiv, cMod, cPow, pAbs, pInt, pMax2, pMin2, plN, plIx, RPs, RPe, atP, getP, setP, setD, appD, okL, ixStep, eCall, eCallB, apN, fMv, fMvP, bName, bTup, bCons, bNil, wipeD, shd, frz, cIt, itE, eIsi, isiB, argsAt, restD, vsOk, Fl.val, nx, nxE, stp, isScal, updP, dwx, pld, h2, h3, h4, canWall]
theorem frz_tl {n c : Nat} {t : T2} : frz (tl n t c) = dwx n t c := by simp [sSeq, sForget, sIf, sSet, sRet, sPass, sCont, sBreak, sRetN, sDrop, sSetIx, sApp, sAsg, lf, eTest, eTru, toBl, eOp2, eV, eC, eSh, toShd, eFz, fFz, eIf, fIf, fTest, fOp2, eAnd, eOr, eNot, eAndV, eOrV, eNotV, eTup, eLst, eNil, eCons, fNil, fCons, fTup, fLst, eCB, fCB, eUn, pNeg, eSl, oNone, oSome, toIntO, pSub, pMul, pDiv, pMod, pPow, pLt, pLe, pGt, pGe, intOp, cT, cDiv, cMod, cPow, pAbs, pInt, pMax2, pMin2, plN, plIx, RPs, RPe, atP, getP, setP, setD, appD, okL, ixStep, eCall, eCallB, apN, fMv, fMvP, bName, bTup, bCons, bNil, wipeD, shd, frz, cIt, itE, eIsi, isiB, argsAt, restD, vsOk, Fl.val, nx, nxE, stp, isScal, updP, tl, dwx, pD, plD]
theorem round_wall {n c : Nat} {t : T2} {S A B C E : D} {r : List Nat} (hn : n ≤ 6) (hn1 : 1 ≤ n) (h : mixed n t = none) (hc : cols n t = c :: r) (hr : rs n t c = true) (hs : (f_spread_of [tb false n t]).dr = .ok (.int 0)) :
    b3_law [S, A, B, C, E, tb false n t, .tup [dwx n t c, .int 0], .unk, .unk, .unk, .unk, .unk, .unk] = .nx [S, A, B, C, E, .unk, .unk, .unk, .unk, .unk, .unk, .unk, .unk] := by
  have hw := wall_wall hn hn1 h hc hr
  obtain ⟨x, hx⟩ := wall_app (S := S) (A := A) (B := B) (C := C) (E := E) (due := .tup [dwx n t c, .int 0]) (t := t) (c := c) hn
  unfold b3_law
  refine forget_nx (e := [S, A, B, C, E, tb false n t, .tup [dwx n t c, .int 0], tb false n t, x, .unk, .unk, .unk, .unk]) (checks (told := tl n t c) hn hw hs frz_tl (pld_dwx hn) rfl (fun z => nomatch z) ?_)
  refine forget_nx (e := [S, A, B, C, E, tb false n t, .tup [dwx n t c, .int 0], tb false n t, x, .unk, .unk, .unk, .unk]) ?_
  have pe := pEq_str canWall canWall
  have i0 : pIx (dwx n t c) (.int 0) = .ok (.str "wall") := by simp [sSeq, sForget, sIf, sSet, sRet, sPass, sCont, sBreak, sRetN, sDrop, sSetIx, sApp, sAsg, lf, eTest, eTru, toBl, eOp2, eV, eC, eSh, toShd, eFz, fFz, eIf, fIf, fTest, fOp2, eAnd, eOr, eNot, eAndV, eOrV, eNotV, eTup, eLst, eNil, eCons, fNil, fCons, fTup, fLst, eCB, fCB, eUn, pNeg, eSl, oNone, oSome, toIntO, pSub, pMul, pDiv, pMod, pPow, pLt, pLe, pGt, pGe, intOp, cT, cDiv, cMod, cPow, pAbs, pInt, pMax2, pMin2, plN, plIx, RPs, RPe, atP, getP, setP, setD, appD, okL, ixStep, eCall, eCallB, apN, fMv, fMvP, bName, bTup, bCons, bNil, wipeD, shd, frz, cIt, itE, eIsi, isiB, argsAt, restD, vsOk, Fl.val, nx, nxE, stp, isScal, updP, dwx, atI, ixN]
  have sd : shd (dwx n t c) = true := pld_shd (pld_dwx (t := t) (c := c) hn)
  have c0 : lf (eTest (eOp2 pEq (eOp2 pIx (eOp2 pIx (eV 6) (eC (.int 0))) (eC (.int 0))) (eC (.str "wall")))) [S, A, B, C, E, tb false n t, .tup [dwx n t c, .int 0], tb false n t, tl n t c, .unk, .unk, .unk, .unk] = .ok true [S, A, B, C, E, tb false n t, .tup [dwx n t c, .int 0], tb false n t, tl n t c, .unk, .unk, .unk, .unk] := by
    have i1 : atI [dwx n t c, D.int 0] 0 = some (dwx n t c) := rfl
    simp [sSeq, sForget, sIf, sSet, sRet, sPass, sCont, sBreak, sRetN, sDrop, sSetIx, sApp, sAsg, lf, eTest, eTru, toBl, eOp2, eV, eC, eSh, toShd, eFz, fFz, eIf, fIf, fTest, fOp2, eAnd, eOr, eNot, eAndV, eOrV, eNotV, eTup, eLst, eNil, eCons, fNil, fCons, fTup, fLst, eCB, fCB, eUn, pNeg, eSl, oNone, oSome, toIntO, pSub, pMul, pDiv, pMod, pPow, pLt, pLe, pGt, pGe, intOp, cT, cDiv, cMod, cPow, pAbs, pInt, pMax2, pMin2, plN, plIx, RPs, RPe, atP, getP, setP, setD, appD, okL, ixStep, eCall, eCallB, apN, fMv, fMvP, bName, bTup, bCons, bNil, wipeD, shd, frz, cIt, itE, eIsi, isiB, argsAt, restD, vsOk, Fl.val, nx, nxE, stp, isScal, updP, sd, i0, i1, pe]
  unfold sIf
  rw [c0, REb_ok, if_pos rfl]
  exact seq_nx (wall_out hn (un_of h hn1) hc hr) (seq_nx (wall_set hn1) hx)
/-- what is due of a table, and that a turn with it holds -/
theorem turn {n : Nat} {t : T2} (hn : n ≤ 6) (hn1 : 1 ≤ n) (hne : ∃ e, e < n ∧ t 0 e ≠ none) : ∃ d x y, (f_law_d_due [tb false n t]).dr = .ok d ∧ frz d = .tup [x, y] ∧ shd x = true ∧ shd y = true ∧
    ∀ S A B C E : D, b3_law [S, A, B, C, E, tb false n t, .tup [x, y], .unk, .unk, .unk, .unk, .unk, .unk] = .nx [S, A, B, C, E, .unk, .unk, .unk, .unk, .unk, .unk, .unk, .unk] := by
  obtain ⟨c, r, hc⟩ : ∃ c r, cols n t = c :: r := by
    obtain ⟨e, h1, h2⟩ := hne
    have := cols_mem.mpr ⟨h1, h2⟩
    cases q : cols n t with
    | nil => rw [q] at this; cases this
    | cons c r => exact ⟨c, r, rfl⟩
  have hcn : cols n t ≠ [] := by rw [hc]; exact fun z => nomatch z
  cases h : mixed n t with
  | some z =>
    refine ⟨_, .tup [.str "column", .int z.1, .int z.2.1, .int z.2.2], .str "endless", due_mixed hn h, by simp [sSeq, sForget, sIf, sSet, sRet, sPass, sCont, sBreak, sRetN, sDrop, sSetIx, sApp, sAsg, lf, eTest, eTru, toBl, eOp2, eV, eC, eSh, toShd, eFz, fFz, eIf, fIf, fTest, fOp2, eAnd, eOr, eNot, eAndV, eOrV, eNotV, eTup, eLst, eNil, eCons, fNil, fCons, fTup, fLst, eCB, fCB, eUn, pNeg, eSl, oNone, oSome, toIntO, pSub, pMul, pDiv, pMod, pPow, pLt, pLe, pGt, pGe, intOp, cT, cDiv, cMod, cPow, pAbs, pInt, pMax2, pMin2, plN, plIx, RPs, RPe, atP, getP, setP, setD, appD, okL, ixStep, eCall, eCallB, apN, fMv, fMvP, bName, bTup, bCons, bNil, wipeD, shd, frz, cIt, itE, eIsi, isiB, argsAt, restD, vsOk, Fl.val, nx, nxE, stp, isScal, updP, colT], by simp [sSeq, sForget, sIf, sSet, sRet, sPass, sCont, sBreak, sRetN, sDrop, sSetIx, sApp, sAsg, lf, eTest, eTru, toBl, eOp2, eV, eC, eSh, toShd, eFz, fFz, eIf, fIf, fTest, fOp2, eAnd, eOr, eNot, eAndV, eOrV, eNotV, eTup, eLst, eNil, eCons, fNil, fCons, fTup, fLst, eCB, fCB, eUn, pNeg, eSl, oNone, oSome, toIntO, pSub, pMul, pDiv, pMod, pPow, pLt, pLe, pGt, pGe, intOp, cT, cDiv, cMod, cPow, pAbs, pInt, pMax2, pMin2, plN, plIx, RPs, RPe, atP, getP, setP, setD, appD, okL, ixStep, eCall, eCallB, apN, fMv, fMvP, bName, bTup, bCons, bNil, wipeD, shd, frz, cIt, itE, eIsi, isiB, argsAt, restD, vsOk, Fl.val, nx, nxE, stp, isScal, updP], by simp [sSeq, sForget, sIf, sSet, sRet, sPass, sCont, sBreak, sRetN, sDrop, sSetIx, sApp, sAsg, lf, eTest, eTru, toBl, eOp2, eV, eC, eSh, toShd, eFz, fFz, eIf, fIf, fTest, fOp2, eAnd, eOr, eNot, eAndV, eOrV, eNotV, eTup, eLst, eNil, eCons, fNil, fCons, fTup, fLst, eCB, fCB, eUn, pNeg, eSl, oNone, oSome, toIntO, pSub, pMul, pDiv, pMod, pPow, pLt, pLe, pGt, pGe, intOp, cT, cDiv, cMod, cPow, pAbs, pInt, pMax2, pMin2, plN, plIx, RPs, RPe, atP, getP, setP, setD, appD, okL, ixStep, eCall, eCallB, apN, fMv, fMvP, bName, bTup, bCons, bNil, wipeD, shd, frz, cIt, itE, eIsi, isiB, argsAt, restD, vsOk, Fl.val, nx, nxE, stp, isScal, updP], fun S A B C E => ?_⟩
    exact round_plain hn (wall_mixed hn h) (spread_mixed hn h) (by simp [sSeq, sForget, sIf, sSet, sRet, sPass, sCont, sBreak, sRetN, sDrop, sSetIx, sApp, sAsg, lf, eTest, eTru, toBl, eOp2, eV, eC, eSh, toShd, eFz, fFz, eIf, fIf, fTest, fOp2, eAnd, eOr, eNot, eAndV, eOrV, eNotV, eTup, eLst, eNil, eCons, fNil, fCons, fTup, fLst, eCB, fCB, eUn, pNeg, eSl, oNone, oSome, toIntO, pSub, pMul, pDiv, pMod, pPow, pLt, pLe, pGt, pGe, intOp, cT, cDiv, cMod, cPow, pAbs, pInt, pMax2, pMin2, plN, plIx, RPs, RPe, atP, getP, setP, setD, appD, okL, ixStep, eCall, eCallB, apN, fMv, fMvP, bName, bTup, bCons, bNil, wipeD, shd, frz, cIt, itE, eIsi, isiB, argsAt, restD, vsOk, Fl.val, nx, nxE, stp, isScal, updP]) (by simp [sSeq, sForget, sIf, sSet, sRet, sPass, sCont, sBreak, sRetN, sDrop, sSetIx, sApp, sAsg, lf, eTest, eTru, toBl, eOp2, eV, eC, eSh, toShd, eFz, fFz, eIf, fIf, fTest, fOp2, eAnd, eOr, eNot, eAndV, eOrV, eNotV, eTup, eLst, eNil, eCons, fNil, fCons, fTup, fLst, eCB, fCB, eUn, pNeg, eSl, oNone, oSome, toIntO, pSub, pMul, pDiv, pMod, pPow, pLt, pLe, pGt, pGe, intOp, cT, cDiv, cMod, cPow, pAbs, pInt, pMax2, pMin2, plN, plIx, RPs, RPe, atP, getP, setP, setD, appD, okL, ixStep, eCall, eCallB, apN, fMv, fMvP, bName, bTup, bCons, bNil, wipeD, shd, frz, cIt, itE, eIsi, isiB, argsAt, restD, vsOk, Fl.val, nx, nxE, stp, isScal, updP, pld, canCol]) canEnd (by decide +kernel) canCol
  | none =>
    have hu := un_of h hn1
    have sp := spread_un h hn1 hcn hn
    cases q : lg n t with
    | some z =>
      have hr : rs n t c = false := by
        cases w : rs n t c with
        | false => rfl
        | true => have := (rs_lg hn1 hc).mp w; rw [q] at this; cases this
      have hg : (gapsA n t).2 = some z := (lg_is hu).trans q
      rw [spr_is hu hcn] at sp
      refine ⟨_, .tup [.str "gap", .int z.1, .int z.2.1, .int z.2.2.1, .int z.2.2.2], .int (gapsA n t).1, due_gap hn hn1 h hg, by simp [sSeq, sForget, sIf, sSet, sRet, sPass, sCont, sBreak, sRetN, sDrop, sSetIx, sApp, sAsg, lf, eTest, eTru, toBl, eOp2, eV, eC, eSh, toShd, eFz, fFz, eIf, fIf, fTest, fOp2, eAnd, eOr, eNot, eAndV, eOrV, eNotV, eTup, eLst, eNil, eCons, fNil, fCons, fTup, fLst, eCB, fCB, eUn, pNeg, eSl, oNone, oSome, toIntO, pSub, pMul, pDiv, pMod, pPow, pLt, pLe, pGt, pGe, intOp, cT, cDiv, cMod, cPow, pAbs, pInt, pMax2, pMin2, plN, plIx, RPs, RPe, atP, getP, setP, setD, appD, okL, ixStep, eCall, eCallB, apN, fMv, fMvP, bName, bTup, bCons, bNil, wipeD, shd, frz, cIt, itE, eIsi, isiB, argsAt, restD, vsOk, Fl.val, nx, nxE, stp, isScal, updP], by simp [sSeq, sForget, sIf, sSet, sRet, sPass, sCont, sBreak, sRetN, sDrop, sSetIx, sApp, sAsg, lf, eTest, eTru, toBl, eOp2, eV, eC, eSh, toShd, eFz, fFz, eIf, fIf, fTest, fOp2, eAnd, eOr, eNot, eAndV, eOrV, eNotV, eTup, eLst, eNil, eCons, fNil, fCons, fTup, fLst, eCB, fCB, eUn, pNeg, eSl, oNone, oSome, toIntO, pSub, pMul, pDiv, pMod, pPow, pLt, pLe, pGt, pGe, intOp, cT, cDiv, cMod, cPow, pAbs, pInt, pMax2, pMin2, plN, plIx, RPs, RPe, atP, getP, setP, setD, appD, okL, ixStep, eCall, eCallB, apN, fMv, fMvP, bName, bTup, bCons, bNil, wipeD, shd, frz, cIt, itE, eIsi, isiB, argsAt, restD, vsOk, Fl.val, nx, nxE, stp, isScal, updP], by simp [sSeq, sForget, sIf, sSet, sRet, sPass, sCont, sBreak, sRetN, sDrop, sSetIx, sApp, sAsg, lf, eTest, eTru, toBl, eOp2, eV, eC, eSh, toShd, eFz, fFz, eIf, fIf, fTest, fOp2, eAnd, eOr, eNot, eAndV, eOrV, eNotV, eTup, eLst, eNil, eCons, fNil, fCons, fTup, fLst, eCB, fCB, eUn, pNeg, eSl, oNone, oSome, toIntO, pSub, pMul, pDiv, pMod, pPow, pLt, pLe, pGt, pGe, intOp, cT, cDiv, cMod, cPow, pAbs, pInt, pMax2, pMin2, plN, plIx, RPs, RPe, atP, getP, setP, setD, appD, okL, ixStep, eCall, eCallB, apN, fMv, fMvP, bName, bTup, bCons, bNil, wipeD, shd, frz, cIt, itE, eIsi, isiB, argsAt, restD, vsOk, Fl.val, nx, nxE, stp, isScal, updP], fun S A B C E => ?_⟩
      exact round_plain hn (wall_gap hn hn1 h hc hr q) sp (by simp [sSeq, sForget, sIf, sSet, sRet, sPass, sCont, sBreak, sRetN, sDrop, sSetIx, sApp, sAsg, lf, eTest, eTru, toBl, eOp2, eV, eC, eSh, toShd, eFz, fFz, eIf, fIf, fTest, fOp2, eAnd, eOr, eNot, eAndV, eOrV, eNotV, eTup, eLst, eNil, eCons, fNil, fCons, fTup, fLst, eCB, fCB, eUn, pNeg, eSl, oNone, oSome, toIntO, pSub, pMul, pDiv, pMod, pPow, pLt, pLe, pGt, pGe, intOp, cT, cDiv, cMod, cPow, pAbs, pInt, pMax2, pMin2, plN, plIx, RPs, RPe, atP, getP, setP, setD, appD, okL, ixStep, eCall, eCallB, apN, fMv, fMvP, bName, bTup, bCons, bNil, wipeD, shd, frz, cIt, itE, eIsi, isiB, argsAt, restD, vsOk, Fl.val, nx, nxE, stp, isScal, updP]) (by simp [sSeq, sForget, sIf, sSet, sRet, sPass, sCont, sBreak, sRetN, sDrop, sSetIx, sApp, sAsg, lf, eTest, eTru, toBl, eOp2, eV, eC, eSh, toShd, eFz, fFz, eIf, fIf, fTest, fOp2, eAnd, eOr, eNot, eAndV, eOrV, eNotV, eTup, eLst, eNil, eCons, fNil, fCons, fTup, fLst, eCB, fCB, eUn, pNeg, eSl, oNone, oSome, toIntO, pSub, pMul, pDiv, pMod, pPow, pLt, pLe, pGt, pGe, intOp, cT, cDiv, cMod, cPow, pAbs, pInt, pMax2, pMin2, plN, plIx, RPs, RPe, atP, getP, setP, setD, appD, okL, ixStep, eCall, eCallB, apN, fMv, fMvP, bName, bTup, bCons, bNil, wipeD, shd, frz, cIt, itE, eIsi, isiB, argsAt, restD, vsOk, Fl.val, nx, nxE, stp, isScal, updP, pld, canGap]) rfl (by decide +kernel) canGap
    | none =>
      have hr : rs n t c = true := (rs_lg hn1 hc).mpr q
      have hg : (gapsA n t).2 = none := (lg_is hu).trans q
      have s0 : spr n t = 0 := by
        obtain ⟨a1, a2, a3⟩ := spr_act (n := n) (t := t)
        rcases a3 with a3 | ⟨x, hx, z, hz, a3⟩
        · exact a3
        · obtain ⟨e, y, he, hy, w⟩ := wd_at hcn x z
          have hx' := List.mem_range.mp hx
          have hz' : z < n := by have := List.mem_range.mp hz; omega
          have := lg_none q x e z y hx' he hz' hy
          unfold gv at this
          unfold df at w
          omega
      rw [s0] at sp
      refine ⟨_, dwx n t c, .int 0, due_wall hn hn1 h hg hc, by simp [sSeq, sForget, sIf, sSet, sRet, sPass, sCont, sBreak, sRetN, sDrop, sSetIx, sApp, sAsg, lf, eTest, eTru, toBl, eOp2, eV, eC, eSh, toShd, eFz, fFz, eIf, fIf, fTest, fOp2, eAnd, eOr, eNot, eAndV, eOrV, eNotV, eTup, eLst, eNil, eCons, fNil, fCons, fTup, fLst, eCB, fCB, eUn, pNeg, eSl, oNone, oSome, toIntO, pSub, pMul, pDiv, pMod, pPow, pLt, pLe, pGt, pGe, intOp, cT, cDiv, cMod, cPow, pAbs, pInt, pMax2, pMin2, plN, plIx, RPs, RPe, atP, getP, setP, setD, appD, okL, ixStep, eCall, eCallB, apN, fMv, fMvP, bName, bTup, bCons, bNil, wipeD, shd, frz, cIt, itE, eIsi, isiB, argsAt, restD, vsOk, Fl.val, nx, nxE, stp, isScal, updP, plD, dwx], pld_shd (pld_dwx hn), rfl, fun S A B C E => ?_⟩
      exact round_wall hn hn1 h hc hr sp
theorem law_true (ns : List Int) (hl : ns.length ≤ 63) : ∃ ds, f_law [scr ns] = .ok (.bl true) ds := by
  obtain ⟨s1, a1, a2⟩ := source_spec ns 0 (by omega) (by omega) hl
  obtain ⟨s2, b1, b2⟩ := source_spec ns 1 (by omega) (by omega) hl
  obtain ⟨n1, t1, p1, p2, p3, p4⟩ := drawn_spec a2
  obtain ⟨n2, t2, q1, q2, q3, q4⟩ := drawn_spec b2
  obtain ⟨d1, x1, y1, u1, u2, u3, u4, u5⟩ := turn p2 p1 p3
  obtain ⟨d2, x2, y2, v1, v2, v3, v4, v5⟩ := turn q2 q1 q3
  have st1 : sSet 1 (lf (eFz (eCall 1 f_law_d_drawn_table (eCons (eCall 2 f_law_source (eCons (eV 0) (eCons (eC (.int 0)) eNil))) eNil)))) [scr ns, .unk, .unk, .unk, .unk, .unk, .unk, .unk, .unk, .unk, .unk, .unk, .unk] = .nx [scr ns, tb false n1 t1, .unk, .unk, .unk, .unk, .unk, .unk, .unk, .unk, .unk, .unk, .unk] := by
    simp [sSeq, sForget, sIf, sSet, sRet, sPass, sCont, sBreak, sRetN, sDrop, sSetIx, sApp, sAsg, lf, eTest, eTru, toBl, eOp2, eV, eC, eSh, toShd, eFz, fFz, eIf, fIf, fTest, fOp2, eAnd, eOr, eNot, eAndV, eOrV, eNotV, eTup, eLst, eNil, eCons, fNil, fCons, fTup, fLst, eCB, fCB, eUn, pNeg, eSl, oNone, oSome, toIntO, pSub, pMul, pDiv, pMod, pPow, pLt, pLe, pGt, pGe, intOp, cT, cDiv, cMod, cPow, pAbs, pInt, pMax2, pMin2, plN, plIx, RPs, RPe, atP, getP, setP, setD, appD, okL, ixStep, eCall, eCallB, apN, fMv, fMvP, bName, bTup, bCons, bNil, wipeD, shd, frz, cIt, itE, eIsi, isiB, argsAt, restD, vsOk, Fl.val, nx, nxE, stp, isScal, updP, scr] at a1 ⊢
    simp [sSeq, sForget, sIf, sSet, sRet, sPass, sCont, sBreak, sRetN, sDrop, sSetIx, sApp, sAsg, lf, eTest, eTru, toBl, eOp2, eV, eC, eSh, toShd, eFz, fFz, eIf, fIf, fTest, fOp2, eAnd, eOr, eNot, eAndV, eOrV, eNotV, eTup, eLst, eNil, eCons, fNil, fCons, fTup, fLst, eCB, fCB, eUn, pNeg, eSl, oNone, oSome, toIntO, pSub, pMul, pDiv, pMod, pPow, pLt, pLe, pGt, pGe, intOp, cT, cDiv, cMod, cPow, pAbs, pInt, pMax2, pMin2, plN, plIx, RPs, RPe, atP, getP, setP, setD, appD, okL, ixStep, eCall, eCallB, apN, fMv, fMvP, bName, bTup, bCons, bNil, wipeD, shd, frz, cIt, itE, eIsi, isiB, argsAt, restD, vsOk, Fl.val, nx, nxE, stp, isScal, updP, a1, p4]
  have st2 : sSet 2 (lf (eFz (eCall 1 f_law_d_drawn_table (eCons (eCall 2 f_law_source (eCons (eV 0) (eCons (eC (.int 1)) eNil))) eNil)))) [scr ns, tb false n1 t1, .unk, .unk, .unk, .unk, .unk, .unk, .unk, .unk, .unk, .unk, .unk] = .nx [scr ns, tb false n1 t1, tb false n2 t2, .unk, .unk, .unk, .unk, .unk, .unk, .unk, .unk, .unk, .unk] := by
    simp [sSeq, sForget, sIf, sSet, sRet, sPass, sCont, sBreak, sRetN, sDrop, sSetIx, sApp, sAsg, lf, eTest, eTru, toBl, eOp2, eV, eC, eSh, toShd, eFz, fFz, eIf, fIf, fTest, fOp2, eAnd, eOr, eNot, eAndV, eOrV, eNotV, eTup, eLst, eNil, eCons, fNil, fCons, fTup, fLst, eCB, fCB, eUn, pNeg, eSl, oNone, oSome, toIntO, pSub, pMul, pDiv, pMod, pPow, pLt, pLe, pGt, pGe, intOp, cT, cDiv, cMod, cPow, pAbs, pInt, pMax2, pMin2, plN, plIx, RPs, RPe, atP, getP, setP, setD, appD, okL, ixStep, eCall, eCallB, apN, fMv, fMvP, bName, bTup, bCons, bNil, wipeD, shd, frz, cIt, itE, eIsi, isiB, argsAt, restD, vsOk, Fl.val, nx, nxE, stp, isScal, updP, scr] at b1 ⊢
    simp [sSeq, sForget, sIf, sSet, sRet, sPass, sCont, sBreak, sRetN, sDrop, sSetIx, sApp, sAsg, lf, eTest, eTru, toBl, eOp2, eV, eC, eSh, toShd, eFz, fFz, eIf, fIf, fTest, fOp2, eAnd, eOr, eNot, eAndV, eOrV, eNotV, eTup, eLst, eNil, eCons, fNil, fCons, fTup, fLst, eCB, fCB, eUn, pNeg, eSl, oNone, oSome, toIntO, pSub, pMul, pDiv, pMod, pPow, pLt, pLe, pGt, pGe, intOp, cT, cDiv, cMod, cPow, pAbs, pInt, pMax2, pMin2, plN, plIx, RPs, RPe, atP, getP, setP, setD, appD, okL, ixStep, eCall, eCallB, apN, fMv, fMvP, bName, bTup, bCons, bNil, wipeD, shd, frz, cIt, itE, eIsi, isiB, argsAt, restD, vsOk, Fl.val, nx, nxE, stp, isScal, updP, b1, q4]
  have st3 : sSet 3 (lf (eFz (eCall 1 f_law_d_due (eCons (eV 1) eNil)))) [scr ns, tb false n1 t1, tb false n2 t2, .unk, .unk, .unk, .unk, .unk, .unk, .unk, .unk, .unk, .unk] = .nx [scr ns, tb false n1 t1, tb false n2 t2, .tup [x1, y1], .unk, .unk, .unk, .unk, .unk, .unk, .unk, .unk, .unk] := by
    simp [sSeq, sForget, sIf, sSet, sRet, sPass, sCont, sBreak, sRetN, sDrop, sSetIx, sApp, sAsg, lf, eTest, eTru, toBl, eOp2, eV, eC, eSh, toShd, eFz, fFz, eIf, fIf, fTest, fOp2, eAnd, eOr, eNot, eAndV, eOrV, eNotV, eTup, eLst, eNil, eCons, fNil, fCons, fTup, fLst, eCB, fCB, eUn, pNeg, eSl, oNone, oSome, toIntO, pSub, pMul, pDiv, pMod, pPow, pLt, pLe, pGt, pGe, intOp, cT, cDiv, cMod, cPow, pAbs, pInt, pMax2, pMin2, plN, plIx, RPs, RPe, atP, getP, setP, setD, appD, okL, ixStep, eCall, eCallB, apN, fMv, fMvP, bName, bTup, bCons, bNil, wipeD, shd, frz, cIt, itE, eIsi, isiB, argsAt, restD, vsOk, Fl.val, nx, nxE, stp, isScal, updP, u1, u2]
  have st4 : sSet 4 (lf (eFz (eCall 1 f_law_d_due (eCons (eV 2) eNil)))) [scr ns, tb false n1 t1, tb false n2 t2, .tup [x1, y1], .unk, .unk, .unk, .unk, .unk, .unk, .unk, .unk, .unk] = .nx [scr ns, tb false n1 t1, tb false n2 t2, .tup [x1, y1], .tup [x2, y2], .unk, .unk, .unk, .unk, .unk, .unk, .unk, .unk] := by
    simp [sSeq, sForget, sIf, sSet, sRet, sPass, sCont, sBreak, sRetN, sDrop, sSetIx, sApp, sAsg, lf, eTest, eTru, toBl, eOp2, eV, eC, eSh, toShd, eFz, fFz, eIf, fIf, fTest, fOp2, eAnd, eOr, eNot, eAndV, eOrV, eNotV, eTup, eLst, eNil, eCons, fNil, fCons, fTup, fLst, eCB, fCB, eUn, pNeg, eSl, oNone, oSome, toIntO, pSub, pMul, pDiv, pMod, pPow, pLt, pLe, pGt, pGe, intOp, cT, cDiv, cMod, cPow, pAbs, pInt, pMax2, pMin2, plN, plIx, RPs, RPe, atP, getP, setP, setD, appD, okL, ixStep, eCall, eCallB, apN, fMv, fMvP, bName, bTup, bCons, bNil, wipeD, shd, frz, cIt, itE, eIsi, isiB, argsAt, restD, vsOk, Fl.val, nx, nxE, stp, isScal, updP, v1, v2]
  have src : cIt itL (eLst (eCons (eTup (eCons (eV 1) (eCons (eV 3) eNil))) (eCons (eTup (eCons (eV 2) (eCons (eV 4) eNil))) (eCons (eTup (eCons (eV 1) (eCons (eV 3) eNil))) eNil)))) [scr ns, tb false n1 t1, tb false n2 t2, .tup [x1, y1], .tup [x2, y2], .unk, .unk, .unk, .unk, .unk, .unk, .unk, .unk] = .ok [.tup [tb false n1 t1, .tup [x1, y1]], .tup [tb false n2 t2, .tup [x2, y2]], .tup [tb false n1 t1, .tup [x1, y1]]] := by
    simp [sSeq, sForget, sIf, sSet, sRet, sPass, sCont, sBreak, sRetN, sDrop, sSetIx, sApp, sAsg, lf, eTest, eTru, toBl, eOp2, eV, eC, eSh, toShd, eFz, fFz, eIf, fIf, fTest, fOp2, eAnd, eOr, eNot, eAndV, eOrV, eNotV, eTup, eLst, eNil, eCons, fNil, fCons, fTup, fLst, eCB, fCB, eUn, pNeg, eSl, oNone, oSome, toIntO, pSub, pMul, pDiv, pMod, pPow, pLt, pLe, pGt, pGe, intOp, cT, cDiv, cMod, cPow, pAbs, pInt, pMax2, pMin2, plN, plIx, RPs, RPe, atP, getP, setP, setD, appD, okL, ixStep, eCall, eCallB, apN, fMv, fMvP, bName, bTup, bCons, bNil, wipeD, shd, frz, cIt, itE, eIsi, isiB, argsAt, restD, vsOk, Fl.val, nx, nxE, stp, isScal, updP, u3, u4, v3, v4, PySem.sizeLine]
  have g1 : stp (bTup 2 (bCons (bName 5) (bCons (bName 6) bNil))) b3_law (.tup [tb false n1 t1, .tup [x1, y1]]) [scr ns, tb false n1 t1, tb false n2 t2, .tup [x1, y1], .tup [x2, y2], .unk, .unk, .unk, .unk, .unk, .unk, .unk, .unk] = .nx [scr ns, tb false n1 t1, tb false n2 t2, .tup [x1, y1], .tup [x2, y2], .unk, .unk, .unk, .unk, .unk, .unk, .unk, .unk] := by
    simp [sSeq, sForget, sIf, sSet, sRet, sPass, sCont, sBreak, sRetN, sDrop, sSetIx, sApp, sAsg, lf, eTest, eTru, toBl, eOp2, eV, eC, eSh, toShd, eFz, fFz, eIf, fIf, fTest, fOp2, eAnd, eOr, eNot, eAndV, eOrV, eNotV, eTup, eLst, eNil, eCons, fNil, fCons, fTup, fLst, eCB, fCB, eUn, pNeg, eSl, oNone, oSome, toIntO, pSub, pMul, pDiv, pMod, pPow, pLt, pLe, pGt, pGe, intOp, cT, cDiv, cMod, cPow, pAbs, pInt, pMax2, pMin2, plN, plIx, RPs, RPe, atP, getP, setP, setD, appD, okL, ixStep, eCall, eCallB, apN, fMv, fMvP, bName, bTup, bCons, bNil, wipeD, shd, frz, cIt, itE, eIsi, isiB, argsAt, restD, vsOk, Fl.val, nx, nxE, stp, isScal, updP, u5]
  have g2 : stp (bTup 2 (bCons (bName 5) (bCons (bName 6) bNil))) b3_law (.tup [tb false n2 t2, .tup [x2, y2]]) [scr ns, tb false n1 t1, tb false n2 t2, .tup [x1, y1], .tup [x2, y2], .unk, .unk, .unk, .unk, .unk, .unk, .unk, .unk] = .nx [scr ns, tb false n1 t1, tb false n2 t2, .tup [x1, y1], .tup [x2, y2], .unk, .unk, .unk, .unk, .unk, .unk, .unk, .unk] := by
    simp [sSeq, sForget, sIf, sSet, sRet, sPass, sCont, sBreak, sRetN, sDrop, sSetIx, sApp, sAsg, lf, eTest, eTru, toBl, eOp2, eV, eC, eSh, toShd, eFz, fFz, eIf, fIf, fTest, fOp2, eAnd, eOr, eNot, eAndV, eOrV, eNotV, eTup, eLst, eNil, eCons, fNil, fCons, fTup, fLst, eCB, fCB, eUn, pNeg, eSl, oNone, oSome, toIntO, pSub, pMul, pDiv, pMod, pPow, pLt, pLe, pGt, pGe, intOp, cT, cDiv, cMod, cPow, pAbs, pInt, pMax2, pMin2, plN, plIx, RPs, RPe, atP, getP, setP, setD, appD, okL, ixStep, eCall, eCallB, apN, fMv, fMvP, bName, bTup, bCons, bNil, wipeD, shd, frz, cIt, itE, eIsi, isiB, argsAt, restD, vsOk, Fl.val, nx, nxE, stp, isScal, updP, v5]
  have lp : forGo (bTup 2 (bCons (bName 5) (bCons (bName 6) bNil))) b3_law [.tup [tb false n1 t1, .tup [x1, y1]], .tup [tb false n2 t2, .tup [x2, y2]], .tup [tb false n1 t1, .tup [x1, y1]]] [scr ns, tb false n1 t1, tb false n2 t2, .tup [x1, y1], .tup [x2, y2], .unk, .unk, .unk, .unk, .unk, .unk, .unk, .unk] = .nx [scr ns, tb false n1 t1, tb false n2 t2, .tup [x1, y1], .tup [x2, y2], .unk, .unk, .unk, .unk, .unk, .unk, .unk, .unk] := by
    rw [forGo_cons, g1]; dsimp only
    rw [forGo_cons, g2]; dsimp only
    rw [forGo_cons, g1]; rfl
  have fin : m_law [scr ns, .unk, .unk, .unk, .unk, .unk, .unk, .unk, .unk, .unk, .unk, .unk, .unk] = .rt (.bl true) [scr ns, tb false n1 t1, tb false n2 t2, .tup [x1, y1], .tup [x2, y2], .unk, .unk, .unk, .unk, .unk, .unk, .unk, .unk] := by
    unfold m_law
    exact seq_nx st1 (seq_nx st2 (seq_nx st3 (seq_nx st4 (seq_nx (forget_nx ((sFor_ok src).trans lp)) rfl))))
  exact ⟨_, mkF_rt (N := 13) (P := 1) (rea := [1, 2, 3, 4, 5, 6, 7, 8, 9, 10, 11]) (ds := [scr ns]) rfl fin⟩
end K14


set_option Elab.async false
set_option linter.all false
set_option maxRecDepth 100000
set_option maxHeartbeats 4000000
namespace K14
open PySem hiding Env
open PySem.Spec PyProof.Rows L2 Evl DP
def topS (i : Nat) : Stmt := PySem.Challenge.pw_nofarther_k14_walls_and_gaps_by_all_four.main.body.getD i (.Pass ⟨0, 0, 0, 0⟩)
abbrev s_mixed_column : Stmt := topS 1
abbrev s_number_columns : Stmt := topS 2
abbrev s_spread_of : Stmt := topS 3
abbrev s_row_sums : Stmt := topS 4
abbrev s_gap_from : Stmt := topS 6
abbrev s_least_gap : Stmt := topS 7
abbrev s_wall_of : Stmt := topS 8
abbrev s_law_source : Stmt := topS 10
abbrev s_law_pick : Stmt := topS 11
abbrev s_law_same : Stmt := topS 12
abbrev s_law_d_sum_table : Stmt := topS 13
abbrev s_law_d_drawn_table : Stmt := topS 14
abbrev s_law_d_gaps : Stmt := topS 15
abbrev s_law_d_due : Stmt := topS 16
abbrev s_law : Stmt := topS 17
structure Tx (K : PySem.W.Frag) (mg : Str → Option Value) where
  a_mixed_column : Addr
  d_mixed_column : FuncData
  g_mixed_column : mg "mixed_column" = some (.ref a_mixed_column)
  F_mixed_column : Fun K "mixed_column" "mixed_column" s_mixed_column a_mixed_column d_mixed_column
  a_number_columns : Addr
  d_number_columns : FuncData
  g_number_columns : mg "number_columns" = some (.ref a_number_columns)
  F_number_columns : Fun K "number_columns" "number_columns" s_number_columns a_number_columns d_number_columns
  a_spread_of : Addr
  d_spread_of : FuncData
  g_spread_of : mg "spread_of" = some (.ref a_spread_of)
  F_spread_of : Fun K "spread_of" "spread_of" s_spread_of a_spread_of d_spread_of
  a_row_sums : Addr
  d_row_sums : FuncData
  g_row_sums : mg "row_sums" = some (.ref a_row_sums)
  F_row_sums : Fun K "row_sums" "row_sums" s_row_sums a_row_sums d_row_sums
  a_gap_from : Addr
  d_gap_from : FuncData
  g_gap_from : mg "gap_from" = some (.ref a_gap_from)
  F_gap_from : Fun K "gap_from" "gap_from" s_gap_from a_gap_from d_gap_from
  a_least_gap : Addr
  d_least_gap : FuncData
  g_least_gap : mg "least_gap" = some (.ref a_least_gap)
  F_least_gap : Fun K "least_gap" "least_gap" s_least_gap a_least_gap d_least_gap
  a_wall_of : Addr
  d_wall_of : FuncData
  g_wall_of : mg "wall_of" = some (.ref a_wall_of)
  F_wall_of : Fun K "wall_of" "wall_of" s_wall_of a_wall_of d_wall_of
  a_law_source : Addr
  d_law_source : FuncData
  g_law_source : mg "_law_source" = some (.ref a_law_source)
  F_law_source : Fun K "_law_source" "_law_source" s_law_source a_law_source d_law_source
  a_law_pick : Addr
  d_law_pick : FuncData
  g_law_pick : mg "_law_pick" = some (.ref a_law_pick)
  F_law_pick : Fun K "_law_pick" "_law_pick" s_law_pick a_law_pick d_law_pick
  a_law_same : Addr
  d_law_same : FuncData
  g_law_same : mg "_law_same" = some (.ref a_law_same)
  F_law_same : Fun K "_law_same" "_law_same" s_law_same a_law_same d_law_same
  a_law_d_sum_table : Addr
  d_law_d_sum_table : FuncData
  g_law_d_sum_table : mg "_law_d_sum_table" = some (.ref a_law_d_sum_table)
  F_law_d_sum_table : Fun K "_law_d_sum_table" "_law_d_sum_table" s_law_d_sum_table a_law_d_sum_table d_law_d_sum_table
  a_law_d_drawn_table : Addr
  d_law_d_drawn_table : FuncData
  g_law_d_drawn_table : mg "_law_d_drawn_table" = some (.ref a_law_d_drawn_table)
  F_law_d_drawn_table : Fun K "_law_d_drawn_table" "_law_d_drawn_table" s_law_d_drawn_table a_law_d_drawn_table d_law_d_drawn_table
  a_law_d_gaps : Addr
  d_law_d_gaps : FuncData
  g_law_d_gaps : mg "_law_d_gaps" = some (.ref a_law_d_gaps)
  F_law_d_gaps : Fun K "_law_d_gaps" "_law_d_gaps" s_law_d_gaps a_law_d_gaps d_law_d_gaps
  a_law_d_due : Addr
  d_law_d_due : FuncData
  g_law_d_due : mg "_law_d_due" = some (.ref a_law_d_due)
  F_law_d_due : Fun K "_law_d_due" "_law_d_due" s_law_d_due a_law_d_due d_law_d_due
  a_law : Addr
  d_law : FuncData
  g_law : mg "law" = some (.ref a_law)
  F_law : Fun K "law" "law" s_law a_law d_law
  z_abs : mg "abs" = none
  z_bool : mg "bool" = none
  z_enumerate : mg "enumerate" = none
  z_int : mg "int" = none
  z_isinstance : mg "isinstance" = none
  z_len : mg "len" = none
  z_list : mg "list" = none
  z_max : mg "max" = none
  z_min : mg "min" = none
  z_range : mg "range" = none
  z_str : mg "str" = none
  z_tuple : mg "tuple" = none
section
variable {P : Program} {w : World} {K : PySem.W.Frag} {mg : Str → Option Value} {base : Heap}
/-! #### mixed_column -/
abbrev N_mixed_column : List Str := ["table", "end", "numbers", "nones", "start", "line"]
theorem sc_mixed_column : FnScope N_mixed_column ["table"] (defScope s_mixed_column) := ⟨rfl, rfl, rfl, by decide +kernel, rfl, by decide +kernel, by decide +kernel⟩
theorem b_mixed_column (T : Tx K mg) : Binds K T.d_mixed_column ["table"] [] := T.F_mixed_column.binds fun _ _ _ _ _ _ us hl => match us, hl with | [_], _ => rfl
theorem ok_mixed_column (T : Tx K mg) : FnOk P w K mg base (L2.CX P w) 1 T.a_mixed_column T.d_mixed_column ["table"] (spF ⟨K, mg⟩ 1 f_mixed_column) := by
  refine T.F_mixed_column.okX sc_mixed_column (fun vs H Q E h => spF_len rfl h) (fun cdv A outer s H vs Q E hr h => ?_)
  refine' ⟨_, ?p, body_F (names := N_mixed_column) (rea := [1, 2, 3]) (chg := [1, 2, 3]) ?q rfl h⟩
  case p => exact (pss_cons (ps_for (passes_of rfl) rfl (pi_range1 (by rfl) T.z_range (pa_cons (pe_callB (kLen (K := K) rfl) (by rfl) T.z_len PySem.boot_len (pa_cons (pv 0) pa_nil)) pa_nil)) (pg_name (i := 1) sc_mixed_column.nd rfl (Or.inr rfl))
  (pss_cons (ps_setLc (i := 2) (own := [("start", 4), ("line", 5)]) (by rfl) sc_mixed_column.nd rfl rfl (sw_true rfl rfl rfl (by decide +kernel)) (kPiE (K := K) rfl (by rfl) T.z_enumerate (pa_cons (pv 0) pa_nil)) (blkOk_by (own := [("start", 4), ("line", 5)]) (N := N_mixed_column) (sc := defScope s_mixed_column) (by decide +kernel)) (fun _ _ _ _ _ => (kGt (K := K) (n := 2) rfl rfl (pgs_cons (pg_name (i := 4) sc_mixed_column.nd rfl (Or.inl rfl)) (pgs_cons (pg_name (i := 5) sc_mixed_column.nd rfl (Or.inl rfl)) pgs_nil)))) (fun _ _ _ _ _ => (pts_one (pt_cmpR op_notN (pe_ix (kIx (K := K) rfl) (pv 5) (pv 1) (fun _ _ => rfl)) pe_non (nomark _)))) (fun _ _ _ _ _ => (pv 4)))
  (pss_one (ps_if (PW.pt (pw_and (kTru (K := K) rfl (pv 2) (fun _ => rfl)) (pw_and1 (pt_cmpR op_lt (pe_callB (kLen (K := K) rfl) (by rfl) T.z_len PySem.boot_len (pa_cons (pv 2) pa_nil)) (pe_callB (kLen (K := K) rfl) (by rfl) T.z_len PySem.boot_len (pa_cons (pv 0) pa_nil)) (nomark _)))))
  (pss_cons (ps_setLc (i := 3) (own := [("start", 4), ("line", 5)]) (by rfl) sc_mixed_column.nd rfl rfl (sw_true rfl rfl rfl (by decide +kernel)) (kPiE (K := K) rfl (by rfl) T.z_enumerate (pa_cons (pv 0) pa_nil)) (blkOk_by (own := [("start", 4), ("line", 5)]) (N := N_mixed_column) (sc := defScope s_mixed_column) (by decide +kernel)) (fun _ _ _ _ _ => (kGt (K := K) (n := 2) rfl rfl (pgs_cons (pg_name (i := 4) sc_mixed_column.nd rfl (Or.inl rfl)) (pgs_cons (pg_name (i := 5) sc_mixed_column.nd rfl (Or.inl rfl)) pgs_nil)))) (fun _ _ _ _ _ => (pts_one (pt_cmpR op_isA (pe_ix (kIx (K := K) rfl) (pv 5) (pv 1) (fun _ _ => rfl)) pe_non (nomark _)))) (fun _ _ _ _ _ => (pv 4)))
  (pss_one (ps_ret (pe_tup (pa_cons (pv 1) (pa_cons (pe_ix (kIx (K := K) rfl) (pv 2) pe_int (fun _ _ => rfl)) (pa_cons (pe_ix (kIx (K := K) rfl) (pv 3) pe_int (fun _ _ => rfl)) pa_nil)))))))
  pss_nil))))
  (pss_one (ps_ret pe_non)))
  case q => exact (simS_seq (simS_forget (vs := [1, 2, 3]) (by decide) (simS_for (f := b1_mixed_column) (m1 := none) (sim_itR1 (simV_cons (sim_CB opA_len (simV_cons (sim_V (m := none) (i := 0)) simV_nil)) simV_nil)) nomode (sim_name (i := 1)) (by decide) (by decide)
  (simS_forget (vs := [1, 2, 3]) (by decide) (simS_seq (simS_set (i := 2) (by decide) (by decide) (Sim.lf (sim_fz (m := none) (sim_lc (m1 := none) (sim_itE (sim_V (m := none) (i := 0))) (sim_gtup (sims_cons (sim_name (i := 4)) (sims_cons (sim_name (i := 5)) sims_nil))) (by decide) (sim_test (sim_op2 (m := none) h_isNot op2_isNot (sim_ix h_ix op2_ix (sim_V (m := none) (i := 5)) (sim_V (m := none) (i := 1))) (sim_non (m := none)))) (sim_V (m := none) (i := 4))))))
  (simS_forget (vs := [3]) (by decide) (simS_if (SimT.lf (sim_and (sim_tru (sim_V (m := none) (i := 2))) (sim_test (sim_op2 (m := none) h_lt op2_lt (sim_CB opA_len (simV_cons (sim_V (m := none) (i := 2)) simV_nil)) (sim_CB opA_len (simV_cons (sim_V (m := none) (i := 0)) simV_nil))))))
  (simS_seq (simS_set (i := 3) (by decide) (by decide) (Sim.lf (sim_fz (m := none) (sim_lc (m1 := none) (sim_itE (sim_V (m := none) (i := 0))) (sim_gtup (sims_cons (sim_name (i := 4)) (sims_cons (sim_name (i := 5)) sims_nil))) (by decide) (sim_test (sim_op2 (m := none) h_is op2_is (sim_ix h_ix op2_ix (sim_V (m := none) (i := 5)) (sim_V (m := none) (i := 1))) (sim_non (m := none)))) (sim_V (m := none) (i := 4))))))
  (simS_ret (Sim.lf (sim_tup (simA_cons (sim_V (m := none) (i := 1)) (simA_cons (sim_ix h_ix op2_ix (sim_V (m := none) (i := 2)) (sim_int (m := none))) (simA_cons (sim_ix h_ix op2_ix (sim_V (m := none) (i := 3)) (sim_int (m := none))) simA_nil)))))))
  simS_pass))))))
  (simS_ret (Sim.lf (sim_non (m := none)))))
/-! #### number_columns -/
abbrev N_number_columns : List Str := ["table", "end", "price"]
theorem sc_number_columns : FnScope N_number_columns ["table"] (defScope s_number_columns) := ⟨rfl, rfl, rfl, by decide +kernel, rfl, by decide +kernel, by decide +kernel⟩
theorem b_number_columns (T : Tx K mg) : Binds K T.d_number_columns ["table"] [] := T.F_number_columns.binds fun _ _ _ _ _ _ us hl => match us, hl with | [_], _ => rfl
theorem ok_number_columns (T : Tx K mg) : FnOk P w K mg base (L2.CX P w) 1 T.a_number_columns T.d_number_columns ["table"] (spF ⟨K, mg⟩ 1 f_number_columns) := by
  refine T.F_number_columns.okX sc_number_columns (fun vs H Q E h => spF_len rfl h) (fun cdv A outer s H vs Q E hr h => ?_)
  refine' ⟨_, ?p, body_F (names := N_number_columns) (rea := []) (chg := []) ?q rfl h⟩
  case p => exact (pss_one (ps_ret (pe_lc (own := [("end", 1), ("price", 2)]) (by rfl) sc_number_columns.nd (kPiE (K := K) rfl (by rfl) T.z_enumerate (pa_cons (pe_ix (kIx (K := K) rfl) (pv 0) pe_int (fun _ _ => rfl)) pa_nil)) (blkOk_by (own := [("end", 1), ("price", 2)]) (N := N_number_columns) (sc := defScope s_number_columns) (by decide +kernel)) (fun _ _ _ _ _ => (kGt (K := K) (n := 2) rfl rfl (pgs_cons (pg_name (i := 1) sc_number_columns.nd rfl (Or.inl rfl)) (pgs_cons (pg_name (i := 2) sc_number_columns.nd rfl (Or.inl rfl)) pgs_nil)))) (fun _ _ _ _ _ => (pts_one (pt_cmpR op_notN (pv 2) pe_non (nomark _)))) (fun _ _ _ _ _ => (pv 1)))))
  case q => exact (simS_ret (Sim.lf (sim_lc (m1 := none) (sim_itE (sim_ix h_ix op2_ix (sim_V (m := none) (i := 0)) (sim_int (m := none)))) (sim_gtup (sims_cons (sim_name (i := 1)) (sims_cons (sim_name (i := 2)) sims_nil))) (by decide) (sim_test (sim_op2 (m := none) h_isNot op2_isNot (sim_V (m := none) (i := 2)) (sim_non (m := none)))) (sim_V (m := none) (i := 1)))))
/-! #### spread_of -/
abbrev N_spread_of : List Str := ["table", "columns", "most", "at", "line", "other", "gaps", "end"]
theorem sc_spread_of : FnScope N_spread_of ["table"] (defScope s_spread_of) := ⟨rfl, rfl, rfl, by decide +kernel, rfl, by decide +kernel, by decide +kernel⟩
theorem b_spread_of (T : Tx K mg) : Binds K T.d_spread_of ["table"] [] := T.F_spread_of.binds fun _ _ _ _ _ _ us hl => match us, hl with | [_], _ => rfl
theorem ok_spread_of (T : Tx K mg) : FnOk P w K mg base (L2.CX P w) 2 T.a_spread_of T.d_spread_of ["table"] (spF ⟨K, mg⟩ 1 f_spread_of) := by
  refine T.F_spread_of.okX sc_spread_of (fun vs H Q E h => spF_len rfl h) (fun cdv A outer s H vs Q E hr h => ?_)
  refine' ⟨_, ?p, body_F (names := N_spread_of) (rea := [1, 2, 3, 4, 5, 6]) (chg := [1, 2, 3, 4, 5, 6]) ?q rfl h⟩
  case p => exact (pss_cons (ps_if (pt_cmpR op_notN (pe_callSD (ok_mixed_column T) (hr.mono (by decide)) (by rfl) T.g_mixed_column T.F_mixed_column.kp (b_mixed_column T) .nil (fun σ => passAt (W := fun cls dx _ H' => E cls dx H') (takes_of rfl rfl rfl rfl) σ) (pa_cons (pv 0) pa_nil)) pe_non (nomark _))
  (pss_one (ps_ret pe_str))
  pss_nil)
  (pss_cons (ps_set (i := 1) sc_spread_of.nd rfl (Or.inl rfl) (pe_callSD (ok_number_columns T) (hr.mono (by decide)) (by rfl) T.g_number_columns T.F_number_columns.kp (b_number_columns T) .nil (fun σ => passAt (W := fun cls dx _ H' => E cls dx H') (takes_of rfl rfl rfl rfl) σ) (pa_cons (pv 0) pa_nil)))
  (pss_cons (ps_set (i := 2) sc_spread_of.nd rfl (Or.inl rfl) pe_int)
  (pss_cons (ps_for (passes_of rfl) rfl (kPiE (K := K) rfl (by rfl) T.z_enumerate (pa_cons (pv 0) pa_nil)) (kGt (K := K) (n := 2) rfl rfl (pgs_cons (pg_name (i := 3) sc_spread_of.nd rfl (Or.inl rfl)) (pgs_cons (pg_name (i := 4) sc_spread_of.nd rfl (Or.inr rfl)) pgs_nil)))
  (pss_one (ps_for (passes_of rfl) rfl (kPiL (K := K) rfl (pe_slice (kSl (K := K) rfl) (pv 0) po_none (po_some (pv 3)))) (pg_name (i := 5) sc_spread_of.nd rfl (Or.inr rfl))
  (pss_cons (ps_setLc (i := 6) (own := [("end", 7)]) (by rfl) sc_spread_of.nd rfl rfl (sw_true rfl rfl rfl (by decide +kernel)) (kPiL (K := K) rfl (pv 1)) (blkOk_by (own := [("end", 7)]) (N := N_spread_of) (sc := defScope s_spread_of) (by decide +kernel)) (fun _ _ _ _ _ => (pg_name (i := 7) sc_spread_of.nd rfl (Or.inl rfl))) (fun _ _ _ _ _ => pts_nil) (fun _ _ _ _ _ => (pe_op op_sub (pe_ix (kIx (K := K) rfl) (pv 4) (pv 7) (fun _ _ => rfl)) (pe_ix (kIx (K := K) rfl) (pv 5) (pv 7) (fun _ _ => rfl)))))
  (pss_one (ps_set (i := 2) sc_spread_of.nd rfl (Or.inl rfl) (pe_callB (call_max2 rfl) (by rfl) T.z_max b_max (pa_cons (pv 2) (pa_cons (pe_op op_sub (pe_callB (kMax (K := K) rfl rfl) (by rfl) T.z_max b_max (pa_cons (pv 6) pa_nil)) (pe_callB (kMin (K := K) rfl rfl) (by rfl) T.z_min b_min (pa_cons (pv 6) pa_nil))) pa_nil)))))))))
  (pss_one (ps_ret (pv 2)))))))
  case q => exact (simS_seq (simS_if (SimT.lf (sim_test (sim_op2 (m := none) h_isNot op2_isNot (sim_call (simA_cons (sim_V (m := none) (i := 0)) simA_nil)) (sim_non (m := none)))))
  (simS_ret (Sim.lf (sim_str (m := none))))
  simS_pass)
  (simS_seq (simS_set (i := 1) (by decide) (by decide) (Sim.lf (sim_fz (m := none) (sim_call (simA_cons (sim_V (m := none) (i := 0)) simA_nil)))))
  (simS_seq (simS_set (i := 2) (by decide) (by decide) (Sim.lf (sim_int (m := none))))
  (simS_seq (simS_forget (vs := [3, 4, 5, 6]) (by decide) (simS_for (f := b2_spread_of) (m1 := none) (sim_itE (sim_V (m := none) (i := 0))) nomode (sim_gtup (sims_cons (sim_name (i := 3)) (sims_cons (sim_name (i := 4)) sims_nil))) (by decide) (by decide)
  (simS_forget (vs := [3, 4, 5, 6]) (by decide) (simS_forget (vs := [5, 6]) (by decide) (simS_for (f := b1_spread_of) (m1 := none) (sim_itL (sim_sl (m := none) (sim_V (m := none) (i := 0)) simO_none (simO_some (sim_V (m := none) (i := 3))))) nomode (sim_name (i := 5)) (by decide) (by decide)
  (simS_forget (vs := [5, 6]) (by decide) (simS_seq (simS_set (i := 6) (by decide) (by decide) (Sim.lf (sim_fz (m := none) (sim_lc (m1 := none) (sim_itL (sim_V (m := none) (i := 1))) (sim_name (i := 7)) (by decide) simT_yes (sim_op2 (m := none) h_sub op2_sub (sim_ix h_ix op2_ix (sim_V (m := none) (i := 4)) (sim_V (m := none) (i := 7))) (sim_ix h_ix op2_ix (sim_V (m := none) (i := 5)) (sim_V (m := none) (i := 7))))))))
  (simS_set (i := 2) (by decide) (by decide) (Sim.lf (sim_CB opA_max2 (simV_cons (sim_V (m := none) (i := 2)) (simV_cons (sim_op2 (m := none) h_sub op2_sub (sim_CB opA_maxL (simV_cons (sim_V (m := none) (i := 6)) simV_nil)) (sim_CB opA_minL (simV_cons (sim_V (m := none) (i := 6)) simV_nil))) simV_nil))))))))))))
  (simS_ret (Sim.lf (sim_V (m := none) (i := 2))))))))
/-! #### row_sums -/
abbrev N_row_sums : List Str := ["table", "columns", "column", "p", "q", "start", "line", "end"]
theorem sc_row_sums : FnScope N_row_sums ["table"] (defScope s_row_sums) := ⟨rfl, rfl, rfl, by decide +kernel, rfl, by decide +kernel, by decide +kernel⟩
theorem b_row_sums (T : Tx K mg) : Binds K T.d_row_sums ["table"] [] := T.F_row_sums.binds fun _ _ _ _ _ _ us hl => match us, hl with | [_], _ => rfl
theorem ok_row_sums (T : Tx K mg) : FnOk P w K mg base (L2.CX P w) 2 T.a_row_sums T.d_row_sums ["table"] (spF ⟨K, mg⟩ 1 f_row_sums) := by
  refine T.F_row_sums.okX sc_row_sums (fun vs H Q E h => spF_len rfl h) (fun cdv A outer s H vs Q E hr h => ?_)
  refine' ⟨_, ?p, body_F (names := N_row_sums) (rea := [1, 2, 3, 4, 5, 6, 7]) (chg := [1, 2, 3, 4, 5, 6, 7]) ?q rfl h⟩
  case p => exact (pss_cons (ps_if (pt_cmpR op_notN (pe_callSD (ok_mixed_column T) (hr.mono (by decide)) (by rfl) T.g_mixed_column T.F_mixed_column.kp (b_mixed_column T) .nil (fun σ => passAt (W := fun cls dx _ H' => E cls dx H') (takes_of rfl rfl rfl rfl) σ) (pa_cons (pv 0) pa_nil)) pe_non (nomark _))
  (pss_one (ps_ret pe_non))
  pss_nil)
  (pss_cons (ps_set (i := 1) sc_row_sums.nd rfl (Or.inl rfl) (pe_callSD (ok_number_columns T) (hr.mono (by decide)) (by rfl) T.g_number_columns T.F_number_columns.kp (b_number_columns T) .nil (fun σ => passAt (W := fun cls dx _ H' => E cls dx H') (takes_of rfl rfl rfl rfl) σ) (pa_cons (pv 0) pa_nil)))
  (pss_cons (ps_set (i := 2) sc_row_sums.nd rfl (Or.inr rfl) (pe_ix (kIx (K := K) rfl) (pv 1) pe_int (fun _ _ => rfl)))
  (pss_cons (ps_setLc (i := 3) (own := [("line", 6)]) (by rfl) sc_row_sums.nd rfl rfl (sw_true rfl rfl rfl (by decide +kernel)) (kPiL (K := K) rfl (pv 0)) (blkOk_by (own := [("line", 6)]) (N := N_row_sums) (sc := defScope s_row_sums) (by decide +kernel)) (fun _ _ _ _ _ => (pg_name (i := 6) sc_row_sums.nd rfl (Or.inl rfl))) (fun _ _ _ _ _ => pts_nil) (fun _ _ _ _ _ => (pe_op op_sub (pe_ix (kIx (K := K) rfl) (pv 6) (pv 2) (fun _ _ => rfl)) (pe_ix (kIx (K := K) rfl) (pe_ix (kIx (K := K) rfl) (pv 0) pe_int (fun _ _ => rfl)) (pv 2) (fun _ _ => rfl)))))
  (pss_cons (ps_set (i := 4) sc_row_sums.nd rfl (Or.inl rfl) (pe_callTy (kList (K := K) rfl) (by rfl) T.z_list PySem.Pv.boot_list (pa_cons (pe_ix (kIx (K := K) rfl) (pv 0) pe_int (fun _ _ => rfl)) pa_nil)))
  (pss_cons (ps_for (passes_of rfl) rfl (kPiE (K := K) rfl (by rfl) T.z_enumerate (pa_cons (pv 0) pa_nil)) (kGt (K := K) (n := 2) rfl rfl (pgs_cons (pg_name (i := 5) sc_row_sums.nd rfl (Or.inl rfl)) (pgs_cons (pg_name (i := 6) sc_row_sums.nd rfl (Or.inl rfl)) pgs_nil)))
  (pss_one (ps_for (passes_of rfl) rfl (kPiL (K := K) rfl (pv 1)) (pg_name (i := 7) sc_row_sums.nd rfl (Or.inl rfl))
  (pss_one (ps_if (pt_cmpR (kNe (K := K) rfl hr.units) (pe_ix (kIx (K := K) rfl) (pv 6) (pv 7) (fun _ _ => rfl)) (pe_op op_addA (pe_ix (kIx (K := K) rfl) (pv 3) (pv 5) (fun _ _ => rfl)) (pe_ix (kIx (K := K) rfl) (pv 4) (pv 7) (fun _ _ => rfl))) (nomark _))
  (pss_one (ps_ret pe_non))
  pss_nil)))))
  (pss_one (ps_ret (pe_tup (pa_cons (pv 3) (pa_cons (pv 4) pa_nil)))))))))))
  case q => exact (simS_seq (simS_if (SimT.lf (sim_test (sim_op2 (m := none) h_isNot op2_isNot (sim_call (simA_cons (sim_V (m := none) (i := 0)) simA_nil)) (sim_non (m := none)))))
  (simS_ret (Sim.lf (sim_non (m := none))))
  simS_pass)
  (simS_seq (simS_set (i := 1) (by decide) (by decide) (Sim.lf (sim_fz (m := none) (sim_call (simA_cons (sim_V (m := none) (i := 0)) simA_nil)))))
  (simS_seq (simS_set (i := 2) (by decide) (by decide) (Sim.lf (sim_ix h_ix op2_ix (sim_V (m := none) (i := 1)) (sim_int (m := none)))))
  (simS_seq (simS_set (i := 3) (by decide) (by decide) (Sim.lf (sim_lc (m1 := none) (sim_itL (sim_V (m := none) (i := 0))) (sim_name (i := 6)) (by decide) simT_yes (sim_op2 (m := none) h_sub op2_sub (sim_ix h_ix op2_ix (sim_V (m := none) (i := 6)) (sim_V (m := none) (i := 2))) (sim_ix h_ix op2_ix (sim_ix h_ix op2_ix (sim_V (m := none) (i := 0)) (sim_int (m := none))) (sim_V (m := none) (i := 2)))))))
  (simS_seq (simS_set (i := 4) (by decide) (by decide) (Sim.lf (sim_CB opA_list (simV_cons (sim_ix h_ix op2_ix (sim_V (m := none) (i := 0)) (sim_int (m := none))) simV_nil))))
  (simS_seq (simS_forget (vs := [5, 6, 7]) (by decide) (simS_for (f := b2_row_sums) (m1 := none) (sim_itE (sim_V (m := none) (i := 0))) nomode (sim_gtup (sims_cons (sim_name (i := 5)) (sims_cons (sim_name (i := 6)) sims_nil))) (by decide) (by decide)
  (simS_forget (vs := [5, 6, 7]) (by decide) (simS_forget (vs := [7]) (by decide) (simS_for (f := b1_row_sums) (m1 := none) (sim_itL (sim_V (m := none) (i := 1))) nomode (sim_name (i := 7)) (by decide) (by decide)
  (simS_forget (vs := [7]) (by decide) (simS_if (SimT.lf (sim_test (sim_op2 (m := none) h_ne op2_ne (sim_ix h_ix op2_ix (sim_V (m := none) (i := 6)) (sim_V (m := none) (i := 7))) (sim_op2 (m := none) h_add op2_add (sim_ix h_ix op2_ix (sim_P (i := 3)) (sim_V (m := none) (i := 5))) (sim_ix h_ix op2_ix (sim_P (i := 4)) (sim_V (m := none) (i := 7)))))))
  (simS_ret (Sim.lf (sim_non (m := none))))
  simS_pass)))))))
  (simS_ret (SimF.mono (μ := [3, 4]) (simF_tup (simFA_cons (simF_mv (i := 3) (by decide)) (simFA_cons (simF_mv (i := 4) (by decide)) simFA_nil))) (by decide)))))))))
/-! #### gap_from -/
abbrev N_gap_from : List Str := ["table", "columns", "start", "end", "line", "other", "more", "column"]
theorem sc_gap_from : FnScope N_gap_from ["table", "columns", "start", "end"] (defScope s_gap_from) := ⟨rfl, rfl, rfl, by decide +kernel, rfl, by decide +kernel, by decide +kernel⟩
theorem b_gap_from (T : Tx K mg) : Binds K T.d_gap_from ["table", "columns", "start", "end"] [] := T.F_gap_from.binds fun _ _ _ _ _ _ us hl => match us, hl with | [_, _, _, _], _ => rfl
theorem ok_gap_from (T : Tx K mg) : FnOk P w K mg base (L2.CX P w) 1 T.a_gap_from T.d_gap_from ["table", "columns", "start", "end"] (spF ⟨K, mg⟩ 4 f_gap_from) := by
  refine T.F_gap_from.okX sc_gap_from (fun vs H Q E h => spF_len rfl h) (fun cdv A outer s H vs Q E hr h => ?_)
  refine' ⟨_, ?p, body_F (names := N_gap_from) (rea := [4, 5, 6, 7]) (chg := [4, 5, 6, 7]) ?q rfl h⟩
  case p => exact (pss_cons (ps_set (i := 4) sc_gap_from.nd rfl (Or.inl rfl) (pe_ix (kIx (K := K) rfl) (pv 0) (pv 2) (fun _ _ => rfl)))
  (pss_cons (ps_for (passes_of rfl) rfl (kPiE (K := K) rfl (by rfl) T.z_enumerate (pa_cons (pv 0) pa_nil)) (kGt (K := K) (n := 2) rfl rfl (pgs_cons (pg_name (i := 5) sc_gap_from.nd rfl (Or.inl rfl)) (pgs_cons (pg_name (i := 6) sc_gap_from.nd rfl (Or.inl rfl)) pgs_nil)))
  (pss_one (ps_for (passes_of rfl) rfl (kPiL (K := K) rfl (pv 1)) (pg_name (i := 7) sc_gap_from.nd rfl (Or.inl rfl))
  (pss_one (ps_if (pt_cmpR op_lt (pe_op op_addA (pe_ix (kIx (K := K) rfl) (pv 4) (pv 3) (fun _ _ => rfl)) (pe_ix (kIx (K := K) rfl) (pv 6) (pv 7) (fun _ _ => rfl))) (pe_op op_addA (pe_ix (kIx (K := K) rfl) (pv 4) (pv 7) (fun _ _ => rfl)) (pe_ix (kIx (K := K) rfl) (pv 6) (pv 3) (fun _ _ => rfl))) (nomark _))
  (pss_one (ps_ret (pe_tup (pa_cons (pv 5) (pa_cons (pv 7) pa_nil)))))
  pss_nil)))))
  (pss_one (ps_ret pe_non))))
  case q => exact (simS_seq (simS_set (i := 4) (by decide) (by decide) (Sim.lf (sim_ix h_ix op2_ix (sim_V (m := none) (i := 0)) (sim_V (m := none) (i := 2)))))
  (simS_seq (simS_forget (vs := [5, 6, 7]) (by decide) (simS_for (f := b2_gap_from) (m1 := none) (sim_itE (sim_V (m := none) (i := 0))) nomode (sim_gtup (sims_cons (sim_name (i := 5)) (sims_cons (sim_name (i := 6)) sims_nil))) (by decide) (by decide)
  (simS_forget (vs := [5, 6, 7]) (by decide) (simS_forget (vs := [7]) (by decide) (simS_for (f := b1_gap_from) (m1 := none) (sim_itL (sim_V (m := none) (i := 1))) nomode (sim_name (i := 7)) (by decide) (by decide)
  (simS_forget (vs := [7]) (by decide) (simS_if (SimT.lf (sim_test (sim_op2 (m := none) h_lt op2_lt (sim_op2 (m := none) h_add op2_add (sim_ix h_ix op2_ix (sim_V (m := none) (i := 4)) (sim_V (m := none) (i := 3))) (sim_ix h_ix op2_ix (sim_V (m := none) (i := 6)) (sim_V (m := none) (i := 7)))) (sim_op2 (m := none) h_add op2_add (sim_ix h_ix op2_ix (sim_V (m := none) (i := 4)) (sim_V (m := none) (i := 7))) (sim_ix h_ix op2_ix (sim_V (m := none) (i := 6)) (sim_V (m := none) (i := 3)))))))
  (simS_ret (Sim.lf (sim_tup (simA_cons (sim_V (m := none) (i := 5)) (simA_cons (sim_V (m := none) (i := 7)) simA_nil)))))
  simS_pass)))))))
  (simS_ret (Sim.lf (sim_non (m := none))))))
/-! #### least_gap -/
abbrev N_least_gap : List Str := ["table", "columns", "start", "end", "found"]
theorem sc_least_gap : FnScope N_least_gap ["table"] (defScope s_least_gap) := ⟨rfl, rfl, rfl, by decide +kernel, rfl, by decide +kernel, by decide +kernel⟩
theorem b_least_gap (T : Tx K mg) : Binds K T.d_least_gap ["table"] [] := T.F_least_gap.binds fun _ _ _ _ _ _ us hl => match us, hl with | [_], _ => rfl
theorem ok_least_gap (T : Tx K mg) : FnOk P w K mg base (L2.CX P w) 2 T.a_least_gap T.d_least_gap ["table"] (spF ⟨K, mg⟩ 1 f_least_gap) := by
  refine T.F_least_gap.okX sc_least_gap (fun vs H Q E h => spF_len rfl h) (fun cdv A outer s H vs Q E hr h => ?_)
  refine' ⟨_, ?p, body_F (names := N_least_gap) (rea := [1, 2, 3, 4]) (chg := [1, 2, 3, 4]) ?q rfl h⟩
  case p => exact (pss_cons (ps_set (i := 1) sc_least_gap.nd rfl (Or.inl rfl) (pe_callSD (ok_number_columns T) (hr.mono (by decide)) (by rfl) T.g_number_columns T.F_number_columns.kp (b_number_columns T) .nil (fun σ => passAt (W := fun cls dx _ H' => E cls dx H') (takes_of rfl rfl rfl rfl) σ) (pa_cons (pv 0) pa_nil)))
  (pss_cons (ps_for (passes_of rfl) rfl (pi_range1 (by rfl) T.z_range (pa_cons (pe_callB (kLen (K := K) rfl) (by rfl) T.z_len PySem.boot_len (pa_cons (pv 0) pa_nil)) pa_nil)) (pg_name (i := 2) sc_least_gap.nd rfl (Or.inl rfl))
  (pss_one (ps_for (passes_of rfl) rfl (kPiL (K := K) rfl (pv 1)) (pg_name (i := 3) sc_least_gap.nd rfl (Or.inl rfl))
  (pss_cons (ps_set (i := 4) sc_least_gap.nd rfl (Or.inl rfl) (pe_callSD (ok_gap_from T) (hr.mono (by decide)) (by rfl) T.g_gap_from T.F_gap_from.kp (b_gap_from T) .nil (fun σ => passAt (W := fun cls dx _ H' => E cls dx H') (takes_of rfl rfl rfl rfl) σ) (pa_cons (pv 0) (pa_cons (pv 1) (pa_cons (pv 2) (pa_cons (pv 3) pa_nil))))))
  (pss_one (ps_if (pt_cmpR op_notN (pv 4) pe_non (nomark _))
  (pss_one (ps_ret (pe_tup (pa_cons (pv 2) (pa_cons (pv 3) (pa_cons (pe_ix (kIx (K := K) rfl) (pv 4) pe_int (fun _ _ => rfl)) (pa_cons (pe_ix (kIx (K := K) rfl) (pv 4) pe_int (fun _ _ => rfl)) pa_nil)))))))
  pss_nil))))))
  (pss_one (ps_ret pe_non))))
  case q => exact (simS_seq (simS_set (i := 1) (by decide) (by decide) (Sim.lf (sim_fz (m := none) (sim_call (simA_cons (sim_V (m := none) (i := 0)) simA_nil)))))
  (simS_seq (simS_forget (vs := [2, 3, 4]) (by decide) (simS_for (f := b2_least_gap) (m1 := none) (sim_itR1 (simV_cons (sim_CB opA_len (simV_cons (sim_V (m := none) (i := 0)) simV_nil)) simV_nil)) nomode (sim_name (i := 2)) (by decide) (by decide)
  (simS_forget (vs := [2, 3, 4]) (by decide) (simS_forget (vs := [3, 4]) (by decide) (simS_for (f := b1_least_gap) (m1 := none) (sim_itL (sim_V (m := none) (i := 1))) nomode (sim_name (i := 3)) (by decide) (by decide)
  (simS_forget (vs := [3, 4]) (by decide) (simS_seq (simS_set (i := 4) (by decide) (by decide) (Sim.lf (sim_fz (m := none) (sim_call (simA_cons (sim_V (m := none) (i := 0)) (simA_cons (sim_V (m := none) (i := 1)) (simA_cons (sim_V (m := none) (i := 2)) (simA_cons (sim_V (m := none) (i := 3)) simA_nil))))))))
  (simS_if (SimT.lf (sim_test (sim_op2 (m := none) h_isNot op2_isNot (sim_V (m := none) (i := 4)) (sim_non (m := none)))))
  (simS_ret (Sim.lf (sim_tup (simA_cons (sim_V (m := none) (i := 2)) (simA_cons (sim_V (m := none) (i := 3)) (simA_cons (sim_ix h_ix op2_ix (sim_V (m := none) (i := 4)) (sim_int (m := none))) (simA_cons (sim_ix h_ix op2_ix (sim_V (m := none) (i := 4)) (sim_int (m := none))) simA_nil)))))))
  simS_pass))))))))
  (simS_ret (Sim.lf (sim_non (m := none))))))
/-! #### wall_of -/
abbrev N_wall_of : List Str := ["table", "sums", "mixed", "gap"]
theorem sc_wall_of : FnScope N_wall_of ["table"] (defScope s_wall_of) := ⟨rfl, rfl, rfl, by decide +kernel, rfl, by decide +kernel, by decide +kernel⟩
theorem b_wall_of (T : Tx K mg) : Binds K T.d_wall_of ["table"] [] := T.F_wall_of.binds fun _ _ _ _ _ _ us hl => match us, hl with | [_], _ => rfl
theorem ok_wall_of (T : Tx K mg) : FnOk P w K mg base (L2.CX P w) 3 T.a_wall_of T.d_wall_of ["table"] (spF ⟨K, mg⟩ 1 f_wall_of) := by
  refine T.F_wall_of.okX sc_wall_of (fun vs H Q E h => spF_len rfl h) (fun cdv A outer s H vs Q E hr h => ?_)
  refine' ⟨_, ?p, body_F (names := N_wall_of) (rea := [1, 2, 3]) (chg := [1, 2, 3]) ?q rfl h⟩
  case p => exact (pss_cons (ps_set (i := 1) sc_wall_of.nd rfl (Or.inl rfl) (pe_callSD (ok_row_sums T) (hr.mono (by decide)) (by rfl) T.g_row_sums T.F_row_sums.kp (b_row_sums T) .nil (fun σ => passAt (W := fun cls dx _ H' => E cls dx H') (takes_of rfl rfl rfl rfl) σ) (pa_cons (pv 0) pa_nil)))
  (pss_cons (ps_if (pt_cmpR op_notN (pv 1) pe_non (nomark _))
  (pss_one (ps_ret (pe_tup (pa_cons pe_str (pa_cons (pe_ix (kIx (K := K) rfl) (pv 1) pe_int (fun _ _ => rfl)) (pa_cons (pe_ix (kIx (K := K) rfl) (pv 1) pe_int (fun _ _ => rfl)) pa_nil))))))
  pss_nil)
  (pss_cons (ps_set (i := 2) sc_wall_of.nd rfl (Or.inl rfl) (pe_callSD (ok_mixed_column T) (hr.mono (by decide)) (by rfl) T.g_mixed_column T.F_mixed_column.kp (b_mixed_column T) .nil (fun σ => passAt (W := fun cls dx _ H' => E cls dx H') (takes_of rfl rfl rfl rfl) σ) (pa_cons (pv 0) pa_nil)))
  (pss_cons (ps_if (pt_cmpR op_notN (pv 2) pe_non (nomark _))
  (pss_one (ps_ret (pe_tup (pa_cons pe_str (pa_cons (pe_ix (kIx (K := K) rfl) (pv 2) pe_int (fun _ _ => rfl)) (pa_cons (pe_ix (kIx (K := K) rfl) (pv 2) pe_int (fun _ _ => rfl)) (pa_cons (pe_ix (kIx (K := K) rfl) (pv 2) pe_int (fun _ _ => rfl)) pa_nil)))))))
  pss_nil)
  (pss_cons (ps_set (i := 3) sc_wall_of.nd rfl (Or.inl rfl) (pe_callSD (ok_least_gap T) (hr.mono (by decide)) (by rfl) T.g_least_gap T.F_least_gap.kp (b_least_gap T) .nil (fun σ => passAt (W := fun cls dx _ H' => E cls dx H') (takes_of rfl rfl rfl rfl) σ) (pa_cons (pv 0) pa_nil)))
  (pss_one (ps_ret (pe_tup (pa_cons pe_str (pa_cons (pe_ix (kIx (K := K) rfl) (pv 3) pe_int (fun _ _ => rfl)) (pa_cons (pe_ix (kIx (K := K) rfl) (pv 3) pe_int (fun _ _ => rfl)) (pa_cons (pe_ix (kIx (K := K) rfl) (pv 3) pe_int (fun _ _ => rfl)) (pa_cons (pe_ix (kIx (K := K) rfl) (pv 3) pe_int (fun _ _ => rfl)) pa_nil)))))))))))))
  case q => exact (simS_seq (simS_set (i := 1) (by decide) (by decide) (Sim.lf (sim_call (simA_cons (sim_V (m := none) (i := 0)) simA_nil))))
  (simS_seq (simS_if (SimT.lf (sim_test (sim_op2 (m := none) h_isNot op2_isNot (sim_P (i := 1)) (sim_non (m := none)))))
  (simS_ret (SimF.mono (μ := [1]) (simF_tup (simFA_cons (Sim.lf (sim_str (m := none))) (simFA_cons (simF_mvP (simPl_ix (simPl_N (r := 1)) (sim_int (m := none))) (by decide)) (simFA_cons (simF_mvP (simPl_ix (simPl_N (r := 1)) (sim_int (m := none))) (by decide)) simFA_nil)))) (by decide)))
  simS_pass)
  (simS_seq (simS_set (i := 2) (by decide) (by decide) (Sim.lf (sim_fz (m := none) (sim_call (simA_cons (sim_V (m := none) (i := 0)) simA_nil)))))
  (simS_seq (simS_if (SimT.lf (sim_test (sim_op2 (m := none) h_isNot op2_isNot (sim_V (m := none) (i := 2)) (sim_non (m := none)))))
  (simS_ret (Sim.lf (sim_tup (simA_cons (sim_str (m := none)) (simA_cons (sim_ix h_ix op2_ix (sim_V (m := none) (i := 2)) (sim_int (m := none))) (simA_cons (sim_ix h_ix op2_ix (sim_V (m := none) (i := 2)) (sim_int (m := none))) (simA_cons (sim_ix h_ix op2_ix (sim_V (m := none) (i := 2)) (sim_int (m := none))) simA_nil)))))))
  simS_pass)
  (simS_seq (simS_set (i := 3) (by decide) (by decide) (Sim.lf (sim_fz (m := none) (sim_call (simA_cons (sim_V (m := none) (i := 0)) simA_nil)))))
  (simS_ret (Sim.lf (sim_tup (simA_cons (sim_str (m := none)) (simA_cons (sim_ix h_ix op2_ix (sim_V (m := none) (i := 3)) (sim_int (m := none))) (simA_cons (sim_ix h_ix op2_ix (sim_V (m := none) (i := 3)) (sim_int (m := none))) (simA_cons (sim_ix h_ix op2_ix (sim_V (m := none) (i := 3)) (sim_int (m := none))) (simA_cons (sim_ix h_ix op2_ix (sim_V (m := none) (i := 3)) (sim_int (m := none))) simA_nil)))))))))))))
/-! #### _law_source -/
abbrev N_law_source : List Str := ["script", "at", "fold", "cell", "size"]
theorem sc_law_source : FnScope N_law_source ["script", "at"] (defScope s_law_source) := ⟨rfl, rfl, rfl, by decide +kernel, rfl, by decide +kernel, by decide +kernel⟩
theorem b_law_source (T : Tx K mg) : Binds K T.d_law_source ["script", "at"] [] := T.F_law_source.binds fun _ _ _ _ _ _ us hl => match us, hl with | [_, _], _ => rfl
theorem ok_law_source (T : Tx K mg) : FnOk P w K mg base (L2.CX P w) 1 T.a_law_source T.d_law_source ["script", "at"] (spF ⟨K, mg⟩ 2 f_law_source) := by
  refine T.F_law_source.okX sc_law_source (fun vs H Q E h => spF_len rfl h) (fun cdv A outer s H vs Q E hr h => ?_)
  refine' ⟨_, ?p, body_F (names := N_law_source) (rea := [2, 3, 4]) (chg := [2, 3, 4]) ?q rfl h⟩
  case p => exact (pss_cons (ps_set (i := 2) sc_law_source.nd rfl (Or.inl rfl) pe_int)
  (pss_cons (ps_for (passes_of rfl) rfl (kPiL (K := K) rfl (pe_slice (kSl (K := K) rfl) (pv 0) po_none (po_some pe_int))) (pg_name (i := 3) sc_law_source.nd rfl (Or.inl rfl))
  (pss_one (ps_set (i := 2) sc_law_source.nd rfl (Or.inl rfl) (pe_op op_mod (pe_op op_addA (pe_op op_addA (pe_op op_mulA (pv 2) pe_int) (pe_op op_mod (pe_callTy call_int1 (by rfl) T.z_int PySem.Pv.boot_int (pa_cons (pv 3) pa_nil)) pe_int)) pe_int) pe_int))))
  (pss_cons (ps_set (i := 4) sc_law_source.nd rfl (Or.inl rfl) (pe_ifExp (pt_cmpR op_lt (pv 1) (pe_callB (kLen (K := K) rfl) (by rfl) T.z_len PySem.boot_len (pa_cons (pv 0) pa_nil)) (nomark _)) (pe_op op_mod (pe_callB call_abs (by rfl) T.z_abs b_abs (pa_cons (pe_callTy call_int1 (by rfl) T.z_int PySem.Pv.boot_int (pa_cons (pe_ix (kIx (K := K) rfl) (pv 0) (pv 1) (fun _ _ => rfl)) pa_nil)) pa_nil)) (pe_op op_mulA (pe_op op_pow pe_int pe_int) (pe_op op_pow pe_int pe_int))) pe_int))
  (pss_one (ps_ret (pe_lst (pa_cons (pe_ifExp (pt_cmpR op_ge (pv 4) (pe_op op_pow pe_int pe_int) (nomark _)) (pv 4) pe_int) (pa_cons (pe_op op_mod (pe_op op_addA (pv 2) (pe_op op_mulA (pv 1) pe_int)) pe_int) (pa_cons (pe_op op_mod (pe_op op_fdivW (pv 2) pe_int) pe_int) pa_nil)))))))))
  case q => exact (simS_seq (simS_set (i := 2) (by decide) (by decide) (Sim.lf (sim_int (m := none))))
  (simS_seq (simS_forget (vs := [3]) (by decide) (simS_for (f := b1_law_source) (m1 := none) (sim_itL (sim_sl (m := none) (sim_V (m := none) (i := 0)) simO_none (simO_some (sim_int (m := none))))) nomode (sim_name (i := 3)) (by decide) (by decide)
  (simS_forget (vs := [3]) (by decide) (simS_set (i := 2) (by decide) (by decide) (Sim.lf (sim_op2 (m := none) h_mod op2_mod (sim_op2 (m := none) h_add op2_add (sim_op2 (m := none) h_add op2_add (sim_op2 (m := none) h_mul op2_mul (sim_V (m := none) (i := 2)) (sim_int (m := none))) (sim_op2 (m := none) h_mod op2_mod (sim_CB opA_int (simV_cons (sim_V (m := none) (i := 3)) simV_nil)) (sim_int (m := none)))) (sim_int (m := none))) (sim_int (m := none))))))))
  (simS_seq (simS_set (i := 4) (by decide) (by decide) (Sim.lf (sim_if (sim_test (sim_op2 (m := none) h_lt op2_lt (sim_V (m := none) (i := 1)) (sim_CB opA_len (simV_cons (sim_V (m := none) (i := 0)) simV_nil)))) (sim_op2 (m := none) h_mod op2_mod (sim_CB opA_abs (simV_cons (sim_CB opA_int (simV_cons (sim_ix h_ix op2_ix (sim_V (m := none) (i := 0)) (sim_V (m := none) (i := 1))) simV_nil)) simV_nil)) (sim_op2 (m := none) h_mul op2_mul (sim_op2 (m := none) h_pow op2_pow (sim_int (m := none)) (sim_int (m := none))) (sim_op2 (m := none) h_pow op2_pow (sim_int (m := none)) (sim_int (m := none))))) (sim_int (m := none)))))
  (simS_ret (Sim.lf (sim_lst (simA_cons (sim_if (sim_test (sim_op2 (m := none) h_ge op2_ge (sim_V (m := none) (i := 4)) (sim_op2 (m := none) h_pow op2_pow (sim_int (m := none)) (sim_int (m := none))))) (sim_V (m := none) (i := 4)) (sim_int (m := none))) (simA_cons (sim_op2 (m := none) h_mod op2_mod (sim_op2 (m := none) h_add op2_add (sim_V (m := none) (i := 2)) (sim_op2 (m := none) h_mul op2_mul (sim_V (m := none) (i := 1)) (sim_int (m := none)))) (sim_int (m := none))) (simA_cons (sim_op2 (m := none) h_mod op2_mod (sim_op2 (m := none) h_div op2_div (sim_V (m := none) (i := 2)) (sim_int (m := none))) (sim_int (m := none))) simA_nil)))))))))
/-! #### _law_pick -/
abbrev N_law_pick : List Str := ["s", "many", "digit", "mixed"]
theorem sc_law_pick : FnScope N_law_pick ["s", "many"] (defScope s_law_pick) := ⟨rfl, rfl, rfl, by decide +kernel, rfl, by decide +kernel, by decide +kernel⟩
theorem b_law_pick (T : Tx K mg) : Binds K T.d_law_pick ["s", "many"] [] := T.F_law_pick.binds fun _ _ _ _ _ _ us hl => match us, hl with | [_, _], _ => rfl
theorem ok_law_pick (T : Tx K mg) : FnOk P w K mg base (L2.CX P w) 1 T.a_law_pick T.d_law_pick ["s", "many"] (spF ⟨K, mg⟩ 2 f_law_pick) := by
  refine T.F_law_pick.okX sc_law_pick (fun vs H Q E h => spF_len rfl h) (fun cdv A outer s H vs Q E hr h => ?_)
  refine' ⟨_, ?p, body_F (names := N_law_pick) (rea := [2, 3]) (chg := [0, 2, 3]) ?q rfl h⟩
  case p => exact (pss_cons (ps_if (pt_cmpR op_ge (pe_ix (kIx (K := K) rfl) (pv 0) pe_int (fun _ _ => rfl)) (pv 1) (nomark _))
  (pss_cons (ps_set (i := 2) sc_law_pick.nd rfl (Or.inl rfl) (pe_op op_mod (pe_ix (kIx (K := K) rfl) (pv 0) pe_int (fun _ _ => rfl)) (pv 1)))
  (pss_cons (ps_asg (pe_op op_fdivW (pe_ix (kIx (K := K) rfl) (pv 0) pe_int (fun _ _ => rfl)) (pv 1)) (pg_sub (pv 0) pe_int set_list))
  (pss_one (ps_ret (pv 2)))))
  pss_nil)
  (pss_cons (ps_asg (pe_op op_addA (pe_ix (kIx (K := K) rfl) (pv 0) pe_int (fun _ _ => rfl)) pe_int) (pg_sub (pv 0) pe_int set_list))
  (pss_cons (ps_set (i := 3) sc_law_pick.nd rfl (Or.inl rfl) (pe_op op_mod (pe_op op_addA (pe_op op_addA (pe_op op_mulA (pe_ix (kIx (K := K) rfl) (pv 0) pe_int (fun _ _ => rfl)) pe_int) (pe_op op_mulA (pe_ix (kIx (K := K) rfl) (pv 0) pe_int (fun _ _ => rfl)) pe_int)) pe_int) pe_int))
  (pss_cons (ps_set (i := 3) sc_law_pick.nd rfl (Or.inl rfl) (pe_op op_mod (pe_op op_addA (pe_op op_addA (pe_op op_mulA (pv 3) (pv 3)) (pe_op op_mulA (pe_ix (kIx (K := K) rfl) (pv 0) pe_int (fun _ _ => rfl)) pe_int)) pe_int) pe_int))
  (pss_cons (ps_asg (pv 3) (pg_sub (pv 0) pe_int set_list))
  (pss_one (ps_ret (pe_op op_mod (pe_op op_fdivW (pv 3) pe_int) (pv 1)))))))))
  case q => exact (simS_seq (simS_forget (vs := [2]) (by decide) (simS_if (SimT.lf (sim_test (sim_op2 (m := none) h_ge op2_ge (sim_ix h_ix op2_ix (sim_P (i := 0)) (sim_int (m := none))) (sim_V (m := none) (i := 1)))))
  (simS_seq (simS_set (i := 2) (by decide) (by decide) (Sim.lf (sim_op2 (m := none) h_mod op2_mod (sim_ix h_ix op2_ix (sim_P (i := 0)) (sim_int (m := none))) (sim_V (m := none) (i := 1)))))
  (simS_seq (simS_setIx (μ := []) (Sim.lf (sim_op2 (m := none) h_div op2_div (sim_ix h_ix op2_ix (sim_P (i := 0)) (sim_int (m := none))) (sim_V (m := none) (i := 1)))) (simPl_N (r := 0)) (Sim.lf (sim_int (m := none))) (by decide) (by decide) (by decide))
  (simS_ret (Sim.lf (sim_V (m := none) (i := 2))))))
  simS_pass))
  (simS_seq (simS_setIx (μ := []) (Sim.lf (sim_op2 (m := none) h_add op2_add (sim_ix h_ix op2_ix (sim_P (i := 0)) (sim_int (m := none))) (sim_int (m := none)))) (simPl_N (r := 0)) (Sim.lf (sim_int (m := none))) (by decide) (by decide) (by decide))
  (simS_seq (simS_set (i := 3) (by decide) (by decide) (Sim.lf (sim_op2 (m := none) h_mod op2_mod (sim_op2 (m := none) h_add op2_add (sim_op2 (m := none) h_add op2_add (sim_op2 (m := none) h_mul op2_mul (sim_ix h_ix op2_ix (sim_P (i := 0)) (sim_int (m := none))) (sim_int (m := none))) (sim_op2 (m := none) h_mul op2_mul (sim_ix h_ix op2_ix (sim_P (i := 0)) (sim_int (m := none))) (sim_int (m := none)))) (sim_int (m := none))) (sim_int (m := none)))))
  (simS_seq (simS_set (i := 3) (by decide) (by decide) (Sim.lf (sim_op2 (m := none) h_mod op2_mod (sim_op2 (m := none) h_add op2_add (sim_op2 (m := none) h_add op2_add (sim_op2 (m := none) h_mul op2_mul (sim_V (m := none) (i := 3)) (sim_V (m := none) (i := 3))) (sim_op2 (m := none) h_mul op2_mul (sim_ix h_ix op2_ix (sim_P (i := 0)) (sim_int (m := none))) (sim_int (m := none)))) (sim_int (m := none))) (sim_int (m := none)))))
  (simS_seq (simS_setIx (μ := []) (Sim.lf (sim_V (m := none) (i := 3))) (simPl_N (r := 0)) (Sim.lf (sim_int (m := none))) (by decide) (by decide) (by decide))
  (simS_ret (Sim.lf (sim_op2 (m := none) h_mod op2_mod (sim_op2 (m := none) h_div op2_div (sim_V (m := none) (i := 3)) (sim_int (m := none))) (sim_V (m := none) (i := 1))))))))))
/-! #### _law_same -/
abbrev N_law_same : List Str := ["one", "due", "k"]
theorem sc_law_same : FnScope N_law_same ["one", "due"] (defScope s_law_same) := ⟨rfl, rfl, rfl, by decide +kernel, rfl, by decide +kernel, by decide +kernel⟩
theorem b_law_same (T : Tx K mg) : Binds K T.d_law_same ["one", "due"] [] := T.F_law_same.binds fun _ _ _ _ _ _ us hl => match us, hl with | [_, _], _ => rfl
theorem ok_law_same (T : Tx K mg) : ∀ n, FnOk P w K mg base (L2.CX P w) (0 + n) T.a_law_same T.d_law_same ["one", "due"] (spF ⟨K, mg⟩ 2 (f_law_same n))
  | 0 => ⟨fun vs H Q E h => spF_len rfl h, fun A outer s H args us vs Q E h1 h2 h3 h4 h => absurd rfl h.2.choose_spec.choose_spec.choose_spec.2.2.2.2.1⟩
  | n + 1 => by
    have IH := ok_law_same T n
    refine T.F_law_same.okX sc_law_same (fun vs H Q E h => spF_len rfl h) (fun cdv A outer s H vs Q E hr h => ?_)
    refine' ⟨_, ?p, body_F (names := N_law_same) (rea := [2]) (chg := [2]) ?q rfl h⟩
    case p => exact (pss_cons (ps_if (pt_cmpR op_isA (pv 1) pe_non (nomark _))
  (pss_one (ps_ret (pe_cmpR op_isA (pv 0) pe_non (nomark _))))
  pss_nil)
  (pss_cons (ps_if (pt_cmpR op_isA (pv 1) pe_bl (nomark _))
  (pss_one (ps_ret (pe_cmpR op_isA (pv 0) pe_bl (nomark _))))
  pss_nil)
  (pss_cons (ps_if (pt_cmpR op_isA (pv 1) pe_bl (nomark _))
  (pss_one (ps_ret (pe_cmpR op_isA (pv 0) pe_bl (nomark _))))
  pss_nil)
  (pss_cons (ps_if (kTru (K := K) rfl (pe_callB (kIsi (K := K) rfl) (by rfl) T.z_isinstance b_isinstance (pa_cons (pv 1) (pa_cons (pe_bltn (v := .ty "int") (by rfl) T.z_int PySem.Pv.boot_int rfl) pa_nil))) (fun _ => rfl))
  (pss_one (ps_ret (pe_and (pe_callB (kIsi (K := K) rfl) (by rfl) T.z_isinstance b_isinstance (pa_cons (pv 0) (pa_cons (pe_bltn (v := .ty "int") (by rfl) T.z_int PySem.Pv.boot_int rfl) pa_nil))) (pe_and (pe_not (pe_callB (kIsi (K := K) rfl) (by rfl) T.z_isinstance b_isinstance (pa_cons (pv 0) (pa_cons (pe_bltn (v := .ty "bool") (by rfl) T.z_bool PySem.Pv.boot_bool rfl) pa_nil)))) (pe_one (pe_cmpR (kEq (K := K) rfl hr.units) (pv 0) (pv 1) (nomark _)))))))
  pss_nil)
  (pss_cons (ps_if (kTru (K := K) rfl (pe_callB (kIsi (K := K) rfl) (by rfl) T.z_isinstance b_isinstance (pa_cons (pv 1) (pa_cons (pe_bltn (v := .ty "str") (by rfl) T.z_str PySem.Pv.boot_str rfl) pa_nil))) (fun _ => rfl))
  (pss_one (ps_ret (pe_and (pe_callB (kIsi (K := K) rfl) (by rfl) T.z_isinstance b_isinstance (pa_cons (pv 0) (pa_cons (pe_bltn (v := .ty "str") (by rfl) T.z_str PySem.Pv.boot_str rfl) pa_nil))) (pe_one (pe_cmpR (kEq (K := K) rfl hr.units) (pv 0) (pv 1) (nomark _))))))
  pss_nil)
  (pss_cons (ps_if (PW.pt (pw_and (kTru (K := K) rfl (pe_callB (kIsi (K := K) rfl) (by rfl) T.z_isinstance b_isinstance (pa_cons (pv 1) (pa_cons (pe_bltn (v := .ty "tuple") (by rfl) T.z_tuple PySem.Pv.boot_tuple rfl) pa_nil))) (fun _ => rfl)) (pw_and1 (pt_not (kTru (K := K) rfl (pe_callB (kIsi (K := K) rfl) (by rfl) T.z_isinstance b_isinstance (pa_cons (pv 0) (pa_cons (pe_bltn (v := .ty "tuple") (by rfl) T.z_tuple PySem.Pv.boot_tuple rfl) pa_nil))) (fun _ => rfl))))))
  (pss_one (ps_ret pe_bl))
  pss_nil)
  (pss_cons (ps_if (PW.pt (pw_and (kTru (K := K) rfl (pe_callB (kIsi (K := K) rfl) (by rfl) T.z_isinstance b_isinstance (pa_cons (pv 1) (pa_cons (pe_bltn (v := .ty "list") (by rfl) T.z_list PySem.Pv.boot_list rfl) pa_nil))) (fun _ => rfl)) (pw_and1 (pt_not (kTru (K := K) rfl (pe_callB (kIsi (K := K) rfl) (by rfl) T.z_isinstance b_isinstance (pa_cons (pv 0) (pa_cons (pe_bltn (v := .ty "list") (by rfl) T.z_list PySem.Pv.boot_list rfl) pa_nil))) (fun _ => rfl))))))
  (pss_one (ps_ret pe_bl))
  pss_nil)
  (pss_cons (ps_if (pt_cmpR (kNe (K := K) rfl hr.units) (pe_callB (kLen (K := K) rfl) (by rfl) T.z_len PySem.boot_len (pa_cons (pv 0) pa_nil)) (pe_callB (kLen (K := K) rfl) (by rfl) T.z_len PySem.boot_len (pa_cons (pv 1) pa_nil)) (nomark _))
  (pss_one (ps_ret pe_bl))
  pss_nil)
  (pss_cons (ps_for (passes_of rfl) rfl (pi_range1 (by rfl) T.z_range (pa_cons (pe_callB (kLen (K := K) rfl) (by rfl) T.z_len PySem.boot_len (pa_cons (pv 1) pa_nil)) pa_nil)) (pg_name (i := 2) sc_law_same.nd rfl (Or.inl rfl))
  (pss_one (ps_if (pt_not (kTru (K := K) rfl (pe_callSD IH hr (by rfl) T.g_law_same T.F_law_same.kp (b_law_same T) .nil (fun σ => passAt (W := fun cls dx _ H' => E cls dx H') (takes_of rfl rfl rfl rfl) σ) (pa_cons (pe_ix (kIx (K := K) rfl) (pv 0) (pv 2) (fun _ _ => rfl)) (pa_cons (pe_ix (kIx (K := K) rfl) (pv 1) (pv 2) (fun _ _ => rfl)) pa_nil))) (fun _ => rfl)))
  (pss_one (ps_ret pe_bl))
  pss_nil)))
  (pss_one (ps_ret pe_bl)))))))))))
    case q => exact (simS_seq (simS_if (SimT.lf (sim_test (sim_op2 (m := none) h_is op2_is (sim_V (m := none) (i := 1)) (sim_non (m := none)))))
  (simS_ret (Sim.lf (sim_op2 (m := none) h_is op2_is (sim_V (m := none) (i := 0)) (sim_non (m := none)))))
  simS_pass)
  (simS_seq (simS_if (SimT.lf (sim_test (sim_op2 (m := none) h_is op2_is (sim_V (m := none) (i := 1)) (sim_bl (m := none)))))
  (simS_ret (Sim.lf (sim_op2 (m := none) h_is op2_is (sim_V (m := none) (i := 0)) (sim_bl (m := none)))))
  simS_pass)
  (simS_seq (simS_if (SimT.lf (sim_test (sim_op2 (m := none) h_is op2_is (sim_V (m := none) (i := 1)) (sim_bl (m := none)))))
  (simS_ret (Sim.lf (sim_op2 (m := none) h_is op2_is (sim_V (m := none) (i := 0)) (sim_bl (m := none)))))
  simS_pass)
  (simS_seq (simS_if (SimT.lf (sim_tru (sim_isi (m := none) (T := "int") (by decide) (sim_V (m := none) (i := 1)))))
  (simS_ret (Sim.lf (sim_andV (sim_isi (m := none) (T := "int") (by decide) (sim_V (m := none) (i := 0))) (sim_andV (sim_notV (m := none) (sim_isi (m := none) (T := "bool") (by decide) (sim_V (m := none) (i := 0)))) (sim_op2 (m := none) h_eq op2_eq (sim_V (m := none) (i := 0)) (sim_V (m := none) (i := 1)))))))
  simS_pass)
  (simS_seq (simS_if (SimT.lf (sim_tru (sim_isi (m := none) (T := "str") (by decide) (sim_V (m := none) (i := 1)))))
  (simS_ret (Sim.lf (sim_andV (sim_isi (m := none) (T := "str") (by decide) (sim_V (m := none) (i := 0))) (sim_op2 (m := none) h_eq op2_eq (sim_V (m := none) (i := 0)) (sim_V (m := none) (i := 1))))))
  simS_pass)
  (simS_seq (simS_if (SimT.lf (sim_and (sim_tru (sim_isi (m := none) (T := "tuple") (by decide) (sim_V (m := none) (i := 1)))) (sim_not (sim_tru (sim_isi (m := none) (T := "tuple") (by decide) (sim_V (m := none) (i := 0)))))))
  (simS_ret (Sim.lf (sim_bl (m := none))))
  simS_pass)
  (simS_seq (simS_if (SimT.lf (sim_and (sim_tru (sim_isi (m := none) (T := "list") (by decide) (sim_V (m := none) (i := 1)))) (sim_not (sim_tru (sim_isi (m := none) (T := "list") (by decide) (sim_V (m := none) (i := 0)))))))
  (simS_ret (Sim.lf (sim_bl (m := none))))
  simS_pass)
  (simS_seq (simS_if (SimT.lf (sim_test (sim_op2 (m := none) h_ne op2_ne (sim_CB opA_len (simV_cons (sim_V (m := none) (i := 0)) simV_nil)) (sim_CB opA_len (simV_cons (sim_V (m := none) (i := 1)) simV_nil)))))
  (simS_ret (Sim.lf (sim_bl (m := none))))
  simS_pass)
  (simS_seq (simS_forget (vs := [2]) (by decide) (simS_for (f := (b1_law_same (f_law_same n))) (m1 := none) (sim_itR1 (simV_cons (sim_CB opA_len (simV_cons (sim_V (m := none) (i := 1)) simV_nil)) simV_nil)) nomode (sim_name (i := 2)) (by decide) (by decide)
  (simS_forget (vs := [2]) (by decide) (simS_if (SimT.lf (sim_not (sim_tru (sim_call (simA_cons (sim_ix h_ix op2_ix (sim_V (m := none) (i := 0)) (sim_V (m := none) (i := 2))) (simA_cons (sim_ix h_ix op2_ix (sim_V (m := none) (i := 1)) (sim_V (m := none) (i := 2))) simA_nil))))))
  (simS_ret (Sim.lf (sim_bl (m := none))))
  simS_pass))))
  (simS_ret (Sim.lf (sim_bl (m := none)))))))))))))
/-! #### _law_d_sum_table -/
abbrev N_law_d_sum_table : List Str := ["s", "many", "most", "p", "q", "k", "x", "t"]
theorem sc_law_d_sum_table : FnScope N_law_d_sum_table ["s", "many", "most"] (defScope s_law_d_sum_table) := ⟨rfl, rfl, rfl, by decide +kernel, rfl, by decide +kernel, by decide +kernel⟩
theorem b_law_d_sum_table (T : Tx K mg) : Binds K T.d_law_d_sum_table ["s", "many", "most"] [] := T.F_law_d_sum_table.binds fun _ _ _ _ _ _ us hl => match us, hl with | [_, _, _], _ => rfl
theorem ok_law_d_sum_table (T : Tx K mg) : FnOk P w K mg base (L2.CX P w) 2 T.a_law_d_sum_table T.d_law_d_sum_table ["s", "many", "most"] (spF ⟨K, mg⟩ 3 f_law_d_sum_table) := by
  refine T.F_law_d_sum_table.okX sc_law_d_sum_table (fun vs H Q E h => spF_len rfl h) (fun cdv A outer s H vs Q E hr h => ?_)
  refine' ⟨_, ?p, body_F (names := N_law_d_sum_table) (rea := [3, 4]) (chg := [0, 3, 4]) ?q rfl h⟩
  case p => exact (pss_cons (ps_set (i := 3) sc_law_d_sum_table.nd rfl (Or.inr rfl) (pe_lc (own := [("k", 5)]) (by rfl) sc_law_d_sum_table.nd (pi_range1 (by rfl) T.z_range (pa_cons (pv 1) pa_nil)) (blkOk_by (own := [("k", 5)]) (N := N_law_d_sum_table) (sc := defScope s_law_d_sum_table) (by decide +kernel)) (fun _ _ _ _ _ => (pg_name (i := 5) sc_law_d_sum_table.nd rfl (Or.inl rfl))) (fun _ _ _ _ _ => pts_nil) (fun _ _ _ _ _ => (pe_callSD (ok_law_pick T) (hr.mono (by decide)) (by rfl) T.g_law_pick T.F_law_pick.kp (b_law_pick T) .nil (fun σ => passAt (W := W0) takes0 σ) (pa_cons (pv 0) (pa_cons (pe_op op_addA (pv 2) pe_int) pa_nil))))))
  (pss_cons (ps_set (i := 4) sc_law_d_sum_table.nd rfl (Or.inr rfl) (pe_lc (own := [("k", 5)]) (by rfl) sc_law_d_sum_table.nd (pi_range1 (by rfl) T.z_range (pa_cons (pv 1) pa_nil)) (blkOk_by (own := [("k", 5)]) (N := N_law_d_sum_table) (sc := defScope s_law_d_sum_table) (by decide +kernel)) (fun _ _ _ _ _ => (pg_name (i := 5) sc_law_d_sum_table.nd rfl (Or.inl rfl))) (fun _ _ _ _ _ => pts_nil) (fun _ _ _ _ _ => (pe_ifExp (pt_cmpR op_gt (pe_callSD (ok_law_pick T) (hr.mono (by decide)) (by rfl) T.g_law_pick T.F_law_pick.kp (b_law_pick T) .nil (fun σ => passAt (W := W0) takes0 σ) (pa_cons (pv 0) (pa_cons pe_int pa_nil))) pe_int (nomark _)) (pe_callSD (ok_law_pick T) (hr.mono (by decide)) (by rfl) T.g_law_pick T.F_law_pick.kp (b_law_pick T) .nil (fun σ => passAt (W := W0) takes0 σ) (pa_cons (pv 0) (pa_cons (pe_op op_addA (pv 2) pe_int) pa_nil))) pe_non))))
  (pss_cons (ps_if (pt_cmpR (kEq (K := K) rfl hr.units) (pe_lc (own := [("x", 6)]) (by rfl) sc_law_d_sum_table.nd (kPiL (K := K) rfl (pv 4)) (blkOk_by (own := [("x", 6)]) (N := N_law_d_sum_table) (sc := defScope s_law_d_sum_table) (by decide +kernel)) (fun _ _ _ _ _ => (pg_name (i := 6) sc_law_d_sum_table.nd rfl (Or.inl rfl))) (fun _ _ _ _ _ => (pts_one (pt_cmpR op_notN (pv 6) pe_non (nomark _)))) (fun _ _ _ _ _ => (pv 6))) (pe_lst pa_nil) (nomark _))
  (pss_one (ps_asg (pe_callSD (ok_law_pick T) (hr.mono (by decide)) (by rfl) T.g_law_pick T.F_law_pick.kp (b_law_pick T) .nil (fun σ => passAt (W := fun cls dx _ H' => E cls dx H') (takes_of rfl rfl rfl rfl) σ) (pa_cons (pv 0) (pa_cons (pe_op op_addA (pv 2) pe_int) pa_nil))) (pg_sub (pv 4) (pe_callSD (ok_law_pick T) (hr.mono (by decide)) (by rfl) T.g_law_pick T.F_law_pick.kp (b_law_pick T) .nil (fun σ => passAt (W := fun cls dx _ H' => E cls dx H') (takes_of rfl rfl rfl rfl) σ) (pa_cons (pv 0) (pa_cons (pv 1) pa_nil))) set_list)))
  pss_nil)
  (pss_one (ps_ret (pe_lc (own := [("x", 6)]) (by rfl) sc_law_d_sum_table.nd (pi_range1 (by rfl) T.z_range (pa_cons (pv 1) pa_nil)) (blkOk_by (own := [("x", 6)]) (N := N_law_d_sum_table) (sc := defScope s_law_d_sum_table) (by decide +kernel)) (fun _ _ _ _ _ => (pg_name (i := 6) sc_law_d_sum_table.nd rfl (Or.inr rfl))) (fun _ _ _ _ _ => pts_nil) (fun _ _ _ _ _ => (pe_lc (own := [("t", 7)]) (by rfl) sc_law_d_sum_table.nd (pi_range1 (by rfl) T.z_range (pa_cons (pv 1) pa_nil)) (blkOk_by (own := [("t", 7)]) (N := N_law_d_sum_table) (by kernel_rfl)) (fun _ _ _ _ _ => (pg_name (i := 7) sc_law_d_sum_table.nd rfl (Or.inl rfl))) (fun _ _ _ _ _ => pts_nil) (fun _ _ _ _ _ => (pe_ifExp (pt_cmpR op_isA (pe_ix (kIx (K := K) rfl) (pv 4) (pv 7) (fun _ _ => rfl)) pe_non (nomark _)) pe_non (pe_op op_addA (pe_ix (kIx (K := K) rfl) (pv 3) (pv 6) (fun _ _ => rfl)) (pe_ix (kIx (K := K) rfl) (pv 4) (pv 7) (fun _ _ => rfl)))))))))))))
  case q => exact (simS_seq (simS_set (i := 3) (by decide) (by decide) (SimF.mono (μ := [0]) (simF_fz (simF_lc (m1 := none) (sim_itR1 (simV_cons (sim_V (m := none) (i := 1)) simV_nil)) nomode (sim_name (i := 5)) (by decide) (by decide) simFT_yes (simF_callM (r := 0) (μ := []) (simFA_cons (Sim.lf (sim_op2 (m := none) h_add op2_add (sim_V (m := none) (i := 2)) (sim_int (m := none)))) simFA_nil) (by decide) (by decide) (by decide)))) (by decide)))
  (simS_seq (simS_set (i := 4) (by decide) (by decide) (SimF.mono (μ := [0]) (simF_lc (m1 := none) (sim_itR1 (simV_cons (sim_V (m := none) (i := 1)) simV_nil)) nomode (sim_name (i := 5)) (by decide) (by decide) simFT_yes (simF_if (simF_test (simF_op2 h_gt op2_gt (simF_callM (r := 0) (μ := []) (simFA_cons (Sim.lf (sim_int (m := none))) simFA_nil) (by decide) (by decide) (by decide)) (Sim.lf (sim_int (m := none))))) (simF_callM (r := 0) (μ := []) (simFA_cons (Sim.lf (sim_op2 (m := none) h_add op2_add (sim_V (m := none) (i := 2)) (sim_int (m := none)))) simFA_nil) (by decide) (by decide) (by decide)) (Sim.lf (sim_non (m := none))))) (by decide)))
  (simS_seq (simS_if (SimT.lf (sim_test (sim_op2 (m := none) h_eq op2_eq (sim_lc (m1 := some 4) (sim_itL (sim_P (i := 4))) (sim_name (i := 6)) (by decide) (sim_test (sim_op2 (m := none) h_isNot op2_isNot (sim_V (m := none) (i := 6)) (sim_non (m := none)))) (sim_V (m := none) (i := 6))) (sim_lst simA_nil))))
  (simS_setIx (μ := [0]) (SimF.mono (μ := [0]) (simF_callM (r := 0) (μ := []) (simFA_cons (Sim.lf (sim_op2 (m := none) h_add op2_add (sim_V (m := none) (i := 2)) (sim_int (m := none)))) simFA_nil) (by decide) (by decide) (by decide)) (by decide)) (simPl_N (r := 4)) (simF_callM (r := 0) (μ := []) (simFA_cons (Sim.lf (sim_V (m := none) (i := 1))) simFA_nil) (by decide) (by decide) (by decide)) (by decide) (by decide) (by decide))
  simS_pass)
  (simS_ret (Sim.lf (sim_lc (m1 := none) (sim_itR1 (simV_cons (sim_V (m := none) (i := 1)) simV_nil)) (sim_name (i := 6)) (by decide) simT_yes (sim_lc (m1 := none) (sim_itR1 (simV_cons (sim_V (m := none) (i := 1)) simV_nil)) (sim_name (i := 7)) (by decide) simT_yes (sim_if (sim_test (sim_op2 (m := none) h_is op2_is (sim_ix h_ix op2_ix (sim_P (i := 4)) (sim_V (m := none) (i := 7))) (sim_non (m := none)))) (sim_non (m := none)) (sim_op2 (m := none) h_add op2_add (sim_ix h_ix op2_ix (sim_V (m := none) (i := 3)) (sim_V (m := none) (i := 6))) (sim_ix h_ix op2_ix (sim_P (i := 4)) (sim_V (m := none) (i := 7))))))))))))
/-! #### _law_d_drawn_table -/
abbrev N_law_d_drawn_table : List Str := ["s", "many", "most", "kind", "table", "x", "cols", "t", "y", "z"]
theorem sc_law_d_drawn_table : FnScope N_law_d_drawn_table ["s"] (defScope s_law_d_drawn_table) := ⟨rfl, rfl, rfl, by decide +kernel, rfl, by decide +kernel, by decide +kernel⟩
theorem b_law_d_drawn_table (T : Tx K mg) : Binds K T.d_law_d_drawn_table ["s"] [] := T.F_law_d_drawn_table.binds fun _ _ _ _ _ _ us hl => match us, hl with | [_], _ => rfl
theorem ok_law_d_drawn_table (T : Tx K mg) : FnOk P w K mg base (L2.CX P w) 3 T.a_law_d_drawn_table T.d_law_d_drawn_table ["s"] (spF ⟨K, mg⟩ 1 f_law_d_drawn_table) := by
  refine T.F_law_d_drawn_table.okX sc_law_d_drawn_table (fun vs H Q E h => spF_len rfl h) (fun cdv A outer s H vs Q E hr h => ?_)
  refine' ⟨_, ?p, body_F (names := N_law_d_drawn_table) (rea := [1, 2, 3, 4, 5, 6, 7, 8, 9]) (chg := [0, 1, 2, 3, 4, 5, 6, 7, 8, 9]) ?q rfl h⟩
  case p => exact (pss_cons (ps_set (i := 1) sc_law_d_drawn_table.nd rfl (Or.inl rfl) (pe_op op_addA pe_int (pe_callSD (ok_law_pick T) (hr.mono (by decide)) (by rfl) T.g_law_pick T.F_law_pick.kp (b_law_pick T) .nil (fun σ => passAt (W := fun cls dx _ H' => E cls dx H') (takes_of rfl rfl rfl rfl) σ) (pa_cons (pv 0) (pa_cons pe_int pa_nil)))))
  (pss_cons (ps_set (i := 2) sc_law_d_drawn_table.nd rfl (Or.inl rfl) (pe_ifExp (pt_cmpR (kEq (K := K) rfl hr.units) (pe_callSD (ok_law_pick T) (hr.mono (by decide)) (by rfl) T.g_law_pick T.F_law_pick.kp (b_law_pick T) .nil (fun σ => passAt (W := fun cls dx _ H' => E cls dx H') (takes_of rfl rfl rfl rfl) σ) (pa_cons (pv 0) (pa_cons pe_int pa_nil))) pe_int (nomark _)) pe_int pe_int))
  (pss_cons (ps_set (i := 3) sc_law_d_drawn_table.nd rfl (Or.inl rfl) (pe_callSD (ok_law_pick T) (hr.mono (by decide)) (by rfl) T.g_law_pick T.F_law_pick.kp (b_law_pick T) .nil (fun σ => passAt (W := fun cls dx _ H' => E cls dx H') (takes_of rfl rfl rfl rfl) σ) (pa_cons (pv 0) (pa_cons pe_int pa_nil))))
  (pss_cons (ps_set (i := 4) sc_law_d_drawn_table.nd rfl (Or.inr rfl) (pe_callSD (ok_law_d_sum_table T) (hr.mono (by decide)) (by rfl) T.g_law_d_sum_table T.F_law_d_sum_table.kp (b_law_d_sum_table T) .nil (fun σ => passAt (W := fun cls dx _ H' => E cls dx H') (takes_of rfl rfl rfl rfl) σ) (pa_cons (pv 0) (pa_cons (pv 1) (pa_cons (pv 2) pa_nil)))))
  (pss_cons (ps_if (pt_cmpR op_lt (pv 3) pe_int (nomark _))
  (pss_one (ps_ret (pv 4)))
  pss_nil)
  (pss_cons (ps_set (i := 5) sc_law_d_drawn_table.nd rfl (Or.inl rfl) (pe_callSD (ok_law_pick T) (hr.mono (by decide)) (by rfl) T.g_law_pick T.F_law_pick.kp (b_law_pick T) .nil (fun σ => passAt (W := fun cls dx _ H' => E cls dx H') (takes_of rfl rfl rfl rfl) σ) (pa_cons (pv 0) (pa_cons (pv 1) pa_nil))))
  (pss_cons (ps_setLc (i := 6) (own := [("t", 7)]) (by rfl) sc_law_d_drawn_table.nd rfl rfl (sw_true rfl rfl rfl (by decide +kernel)) (pi_range1 (by rfl) T.z_range (pa_cons (pv 1) pa_nil)) (blkOk_by (own := [("t", 7)]) (N := N_law_d_drawn_table) (sc := defScope s_law_d_drawn_table) (by decide +kernel)) (fun _ _ _ _ _ => (pg_name (i := 7) sc_law_d_drawn_table.nd rfl (Or.inl rfl))) (fun _ _ _ _ _ => (pts_one (pt_cmpR op_notN (pe_ix (kIx (K := K) rfl) (pe_ix (kIx (K := K) rfl) (pv 4) pe_int (fun _ _ => rfl)) (pv 7) (fun _ _ => rfl)) pe_non (nomark _)))) (fun _ _ _ _ _ => (pv 7)))
  (pss_cons (ps_set (i := 7) sc_law_d_drawn_table.nd rfl (Or.inl rfl) (pe_ix (kIx (K := K) rfl) (pv 6) (pe_callSD (ok_law_pick T) (hr.mono (by decide)) (by rfl) T.g_law_pick T.F_law_pick.kp (b_law_pick T) .nil (fun σ => passAt (W := fun cls dx _ H' => E cls dx H') (takes_of rfl rfl rfl rfl) σ) (pa_cons (pv 0) (pa_cons (pe_callB (kLen (K := K) rfl) (by rfl) T.z_len PySem.boot_len (pa_cons (pv 6) pa_nil)) pa_nil))) (fun _ _ => rfl)))
  (pss_cons (ps_if (pt_cmpR (kEq (K := K) rfl hr.units) (pv 3) pe_int (nomark _))
  (pss_one (ps_asg (pe_op op_addA (pe_op op_addA (pe_ix (kIx (K := K) rfl) (pe_ix (kIx (K := K) rfl) (pv 4) (pv 5) (fun _ _ => rfl)) (pv 7) (fun _ _ => rfl)) pe_int) (pe_callSD (ok_law_pick T) (hr.mono (by decide)) (by rfl) T.g_law_pick T.F_law_pick.kp (b_law_pick T) .nil (fun σ => passAt (W := fun cls dx _ H' => E cls dx H') (takes_of rfl rfl rfl rfl) σ) (pa_cons (pv 0) (pa_cons (pv 2) pa_nil)))) (pg_sub (pe_ix (kIx (K := K) rfl) (pv 4) (pv 5) (fun _ _ => rfl)) (pv 7) set_list)))
  pss_nil)
  (pss_cons (ps_if (PW.pt (pw_and (pt_cmpR (kEq (K := K) rfl hr.units) (pv 3) pe_int (nomark _)) (pw_and1 (pt_cmpR op_gt (pe_callB (kLen (K := K) rfl) (by rfl) T.z_len PySem.boot_len (pa_cons (pv 6) pa_nil)) pe_int (nomark _)))))
  (pss_one (ps_asg pe_non (pg_sub (pe_ix (kIx (K := K) rfl) (pv 4) (pv 5) (fun _ _ => rfl)) (pv 7) set_list)))
  pss_nil)
  (pss_cons (ps_if (pt_cmpR (kEq (K := K) rfl hr.units) (pv 3) pe_int (nomark _))
  (pss_one (ps_for (passes_of rfl) rfl (kPiL (K := K) rfl (pv 6)) (pg_name (i := 8) sc_law_d_drawn_table.nd rfl (Or.inl rfl))
  (pss_one (ps_for (passes_of rfl) rfl (pi_range1 (by rfl) T.z_range (pa_cons (pv 1) pa_nil)) (pg_name (i := 9) sc_law_d_drawn_table.nd rfl (Or.inl rfl))
  (pss_one (ps_asg (pe_callSD (ok_law_pick T) (hr.mono (by decide)) (by rfl) T.g_law_pick T.F_law_pick.kp (b_law_pick T) .nil (fun σ => passAt (W := fun cls dx _ H' => E cls dx H') (takes_of rfl rfl rfl rfl) σ) (pa_cons (pv 0) (pa_cons (pe_op op_addA (pv 2) pe_int) pa_nil))) (pg_sub (pe_ix (kIx (K := K) rfl) (pv 4) (pv 9) (fun _ _ => rfl)) (pv 8) set_list)))))))
  pss_nil)
  (pss_one (ps_ret (pv 4))))))))))))))
  case q => exact (simS_seq (simS_set (i := 1) (by decide) (by decide) (SimF.mono (μ := [0]) (simF_op2 h_add op2_add (Sim.lf (sim_int (m := none))) (simF_callM (r := 0) (μ := []) (simFA_cons (Sim.lf (sim_int (m := none))) simFA_nil) (by decide) (by decide) (by decide))) (by decide)))
  (simS_seq (simS_set (i := 2) (by decide) (by decide) (SimF.mono (μ := [0]) (simF_if (simF_test (simF_op2 h_eq op2_eq (simF_callM (r := 0) (μ := []) (simFA_cons (Sim.lf (sim_int (m := none))) simFA_nil) (by decide) (by decide) (by decide)) (Sim.lf (sim_int (m := none))))) (Sim.lf (sim_int (m := none))) (Sim.lf (sim_int (m := none)))) (by decide)))
  (simS_seq (simS_set (i := 3) (by decide) (by decide) (SimF.mono (μ := [0]) (simF_callM (r := 0) (μ := []) (simFA_cons (Sim.lf (sim_int (m := none))) simFA_nil) (by decide) (by decide) (by decide)) (by decide)))
  (simS_seq (simS_set (i := 4) (by decide) (by decide) (SimF.mono (μ := [0]) (simF_callM (r := 0) (μ := []) (simFA_cons (Sim.lf (sim_V (m := none) (i := 1))) (simFA_cons (Sim.lf (sim_V (m := none) (i := 2))) simFA_nil)) (by decide) (by decide) (by decide)) (by decide)))
  (simS_seq (simS_if (SimT.lf (sim_test (sim_op2 (m := none) h_lt op2_lt (sim_V (m := none) (i := 3)) (sim_int (m := none)))))
  (simS_ret (SimF.mono (μ := [4]) (simF_mv (i := 4) (by decide)) (by decide)))
  simS_pass)
  (simS_seq (simS_set (i := 5) (by decide) (by decide) (SimF.mono (μ := [0]) (simF_callM (r := 0) (μ := []) (simFA_cons (Sim.lf (sim_V (m := none) (i := 1))) simFA_nil) (by decide) (by decide) (by decide)) (by decide)))
  (simS_seq (simS_set (i := 6) (by decide) (by decide) (Sim.lf (sim_fz (m := none) (sim_lc (m1 := none) (sim_itR1 (simV_cons (sim_V (m := none) (i := 1)) simV_nil)) (sim_name (i := 7)) (by decide) (sim_test (sim_op2 (m := none) h_isNot op2_isNot (sim_ix h_ix op2_ix (sim_ix h_ix op2_ix (sim_P (i := 4)) (sim_int (m := none))) (sim_V (m := none) (i := 7))) (sim_non (m := none)))) (sim_V (m := none) (i := 7))))))
  (simS_seq (simS_set (i := 7) (by decide) (by decide) (SimF.mono (μ := [0]) (simF_fz (simF_op2 h_ix op2_ix (Sim.lf (sim_V (m := none) (i := 6))) (simF_callM (r := 0) (μ := []) (simFA_cons (Sim.lf (sim_CB opA_len (simV_cons (sim_V (m := none) (i := 6)) simV_nil))) simFA_nil) (by decide) (by decide) (by decide)))) (by decide)))
  (simS_seq (simS_if (SimT.lf (sim_test (sim_op2 (m := none) h_eq op2_eq (sim_V (m := none) (i := 3)) (sim_int (m := none)))))
  (simS_setIx (μ := []) (SimF.mono (μ := [0]) (simF_op2 h_add op2_add (Sim.lf (sim_op2 (m := none) h_add op2_add (sim_ix h_ix op2_ix (sim_ix h_ix op2_ix (sim_P (i := 4)) (sim_V (m := none) (i := 5))) (sim_V (m := none) (i := 7))) (sim_int (m := none)))) (simF_callM (r := 0) (μ := []) (simFA_cons (Sim.lf (sim_V (m := none) (i := 2))) simFA_nil) (by decide) (by decide) (by decide))) (by decide)) (simPl_ix (simPl_N (r := 4)) (sim_V (m := none) (i := 5))) (Sim.lf (sim_V (m := none) (i := 7))) (by decide) (by decide) (by decide))
  simS_pass)
  (simS_seq (simS_if (SimT.lf (sim_and (sim_test (sim_op2 (m := none) h_eq op2_eq (sim_V (m := none) (i := 3)) (sim_int (m := none)))) (sim_test (sim_op2 (m := none) h_gt op2_gt (sim_CB opA_len (simV_cons (sim_V (m := none) (i := 6)) simV_nil)) (sim_int (m := none))))))
  (simS_setIx (μ := []) (Sim.lf (sim_non (m := none))) (simPl_ix (simPl_N (r := 4)) (sim_V (m := none) (i := 5))) (Sim.lf (sim_V (m := none) (i := 7))) (by decide) (by decide) (by decide))
  simS_pass)
  (simS_seq (simS_forget (vs := [8, 9]) (by decide) (simS_if (SimT.lf (sim_test (sim_op2 (m := none) h_eq op2_eq (sim_V (m := none) (i := 3)) (sim_int (m := none)))))
  (simS_forget (vs := [8, 9]) (by decide) (simS_for (f := b2_law_d_drawn_table) (m1 := none) (sim_itL (sim_V (m := none) (i := 6))) nomode (sim_name (i := 8)) (by decide) (by decide)
  (simS_forget (vs := [8, 9]) (by decide) (simS_forget (vs := [9]) (by decide) (simS_for (f := b1_law_d_drawn_table) (m1 := none) (sim_itR1 (simV_cons (sim_V (m := none) (i := 1)) simV_nil)) nomode (sim_name (i := 9)) (by decide) (by decide)
  (simS_forget (vs := [9]) (by decide) (simS_setIx (μ := []) (SimF.mono (μ := [0]) (simF_callM (r := 0) (μ := []) (simFA_cons (Sim.lf (sim_op2 (m := none) h_add op2_add (sim_V (m := none) (i := 2)) (sim_int (m := none)))) simFA_nil) (by decide) (by decide) (by decide)) (by decide)) (simPl_ix (simPl_N (r := 4)) (sim_V (m := none) (i := 9))) (Sim.lf (sim_V (m := none) (i := 8))) (by decide) (by decide) (by decide))))))))
  simS_pass))
  (simS_ret (SimF.mono (μ := [4]) (simF_mv (i := 4) (by decide)) (by decide))))))))))))))
/-! #### _law_d_gaps -/
abbrev N_law_d_gaps : List Str := ["table", "many", "most", "first", "s", "t", "z", "y", "gap"]
theorem sc_law_d_gaps : FnScope N_law_d_gaps ["table"] (defScope s_law_d_gaps) := ⟨rfl, rfl, rfl, by decide +kernel, rfl, by decide +kernel, by decide +kernel⟩
theorem b_law_d_gaps (T : Tx K mg) : Binds K T.d_law_d_gaps ["table"] [] := T.F_law_d_gaps.binds fun _ _ _ _ _ _ us hl => match us, hl with | [_], _ => rfl
theorem ok_law_d_gaps (T : Tx K mg) : FnOk P w K mg base (L2.CX P w) 1 T.a_law_d_gaps T.d_law_d_gaps ["table"] (spF ⟨K, mg⟩ 1 f_law_d_gaps) := by
  refine T.F_law_d_gaps.okX sc_law_d_gaps (fun vs H Q E h => spF_len rfl h) (fun cdv A outer s H vs Q E hr h => ?_)
  refine' ⟨_, ?p, body_F (names := N_law_d_gaps) (rea := [1, 2, 3, 4, 5, 6, 7, 8]) (chg := [1, 2, 3, 4, 5, 6, 7, 8]) ?q rfl h⟩
  case p => exact (pss_cons (ps_set (i := 1) sc_law_d_gaps.nd rfl (Or.inl rfl) (pe_callB (kLen (K := K) rfl) (by rfl) T.z_len PySem.boot_len (pa_cons (pv 0) pa_nil)))
  (pss_cons (ps_set (i := 2) sc_law_d_gaps.nd rfl (Or.inl rfl) pe_int)
  (pss_cons (ps_set (i := 3) sc_law_d_gaps.nd rfl (Or.inl rfl) pe_non)
  (pss_cons (ps_for (passes_of rfl) rfl (pi_range1 (by rfl) T.z_range (pa_cons (pv 1) pa_nil)) (pg_name (i := 4) sc_law_d_gaps.nd rfl (Or.inl rfl))
  (pss_one (ps_for (passes_of rfl) rfl (pi_range1 (by rfl) T.z_range (pa_cons (pv 1) pa_nil)) (pg_name (i := 5) sc_law_d_gaps.nd rfl (Or.inl rfl))
  (pss_cons (ps_if (pt_cmpR op_isA (pe_ix (kIx (K := K) rfl) (pe_ix (kIx (K := K) rfl) (pv 0) (pv 4) (fun _ _ => rfl)) (pv 5) (fun _ _ => rfl)) pe_non (nomark _))
  (pss_one ps_continue)
  pss_nil)
  (pss_one (ps_for (passes_of rfl) rfl (pi_range1 (by rfl) T.z_range (pa_cons (pv 1) pa_nil)) (pg_name (i := 6) sc_law_d_gaps.nd rfl (Or.inl rfl))
  (pss_one (ps_for (passes_of rfl) rfl (pi_range1 (by rfl) T.z_range (pa_cons (pv 1) pa_nil)) (pg_name (i := 7) sc_law_d_gaps.nd rfl (Or.inl rfl))
  (pss_cons (ps_if (pt_cmpR op_isA (pe_ix (kIx (K := K) rfl) (pe_ix (kIx (K := K) rfl) (pv 0) (pv 4) (fun _ _ => rfl)) (pv 7) (fun _ _ => rfl)) pe_non (nomark _))
  (pss_one ps_continue)
  pss_nil)
  (pss_cons (ps_set (i := 8) sc_law_d_gaps.nd rfl (Or.inl rfl) (pe_op op_sub (pe_op op_sub (pe_op op_addA (pe_ix (kIx (K := K) rfl) (pe_ix (kIx (K := K) rfl) (pv 0) (pv 4) (fun _ _ => rfl)) (pv 7) (fun _ _ => rfl)) (pe_ix (kIx (K := K) rfl) (pe_ix (kIx (K := K) rfl) (pv 0) (pv 6) (fun _ _ => rfl)) (pv 5) (fun _ _ => rfl))) (pe_ix (kIx (K := K) rfl) (pe_ix (kIx (K := K) rfl) (pv 0) (pv 4) (fun _ _ => rfl)) (pv 5) (fun _ _ => rfl))) (pe_ix (kIx (K := K) rfl) (pe_ix (kIx (K := K) rfl) (pv 0) (pv 6) (fun _ _ => rfl)) (pv 7) (fun _ _ => rfl))))
  (pss_cons (ps_if (PW.pt (pw_and (pt_cmpR op_gt (pv 8) pe_int (nomark _)) (pw_and1 (pt_cmpR op_isA (pv 3) pe_non (nomark _)))))
  (pss_one (ps_set (i := 3) sc_law_d_gaps.nd rfl (Or.inl rfl) (pe_tup (pa_cons (pv 4) (pa_cons (pv 5) (pa_cons (pv 6) (pa_cons (pv 7) pa_nil)))))))
  pss_nil)
  (pss_one (ps_set (i := 2) sc_law_d_gaps.nd rfl (Or.inl rfl) (pe_callB (call_max2 rfl) (by rfl) T.z_max b_max (pa_cons (pv 2) (pa_cons (pv 8) pa_nil))))))))))))))))
  (pss_one (ps_ret (pe_tup (pa_cons (pv 2) (pa_cons (pv 3) pa_nil)))))))))
  case q => exact (simS_seq (simS_set (i := 1) (by decide) (by decide) (Sim.lf (sim_CB opA_len (simV_cons (sim_V (m := none) (i := 0)) simV_nil))))
  (simS_seq (simS_set (i := 2) (by decide) (by decide) (Sim.lf (sim_int (m := none))))
  (simS_seq (simS_set (i := 3) (by decide) (by decide) (Sim.lf (sim_non (m := none))))
  (simS_seq (simS_forget (vs := [4, 5, 6, 7, 8]) (by decide) (simS_for (f := b4_law_d_gaps) (m1 := none) (sim_itR1 (simV_cons (sim_V (m := none) (i := 1)) simV_nil)) nomode (sim_name (i := 4)) (by decide) (by decide)
  (simS_forget (vs := [4, 5, 6, 7, 8]) (by decide) (simS_forget (vs := [5, 6, 7, 8]) (by decide) (simS_for (f := b3_law_d_gaps) (m1 := none) (sim_itR1 (simV_cons (sim_V (m := none) (i := 1)) simV_nil)) nomode (sim_name (i := 5)) (by decide) (by decide)
  (simS_forget (vs := [5, 6, 7, 8]) (by decide) (simS_seq (simS_if (SimT.lf (sim_test (sim_op2 (m := none) h_is op2_is (sim_ix h_ix op2_ix (sim_ix h_ix op2_ix (sim_V (m := none) (i := 0)) (sim_V (m := none) (i := 4))) (sim_V (m := none) (i := 5))) (sim_non (m := none)))))
  simS_cont
  simS_pass)
  (simS_forget (vs := [6, 7, 8]) (by decide) (simS_for (f := b2_law_d_gaps) (m1 := none) (sim_itR1 (simV_cons (sim_V (m := none) (i := 1)) simV_nil)) nomode (sim_name (i := 6)) (by decide) (by decide)
  (simS_forget (vs := [6, 7, 8]) (by decide) (simS_forget (vs := [7, 8]) (by decide) (simS_for (f := b1_law_d_gaps) (m1 := none) (sim_itR1 (simV_cons (sim_V (m := none) (i := 1)) simV_nil)) nomode (sim_name (i := 7)) (by decide) (by decide)
  (simS_forget (vs := [7, 8]) (by decide) (simS_seq (simS_if (SimT.lf (sim_test (sim_op2 (m := none) h_is op2_is (sim_ix h_ix op2_ix (sim_ix h_ix op2_ix (sim_V (m := none) (i := 0)) (sim_V (m := none) (i := 4))) (sim_V (m := none) (i := 7))) (sim_non (m := none)))))
  simS_cont
  simS_pass)
  (simS_seq (simS_set (i := 8) (by decide) (by decide) (Sim.lf (sim_op2 (m := none) h_sub op2_sub (sim_op2 (m := none) h_sub op2_sub (sim_op2 (m := none) h_add op2_add (sim_ix h_ix op2_ix (sim_ix h_ix op2_ix (sim_V (m := none) (i := 0)) (sim_V (m := none) (i := 4))) (sim_V (m := none) (i := 7))) (sim_ix h_ix op2_ix (sim_ix h_ix op2_ix (sim_V (m := none) (i := 0)) (sim_V (m := none) (i := 6))) (sim_V (m := none) (i := 5)))) (sim_ix h_ix op2_ix (sim_ix h_ix op2_ix (sim_V (m := none) (i := 0)) (sim_V (m := none) (i := 4))) (sim_V (m := none) (i := 5)))) (sim_ix h_ix op2_ix (sim_ix h_ix op2_ix (sim_V (m := none) (i := 0)) (sim_V (m := none) (i := 6))) (sim_V (m := none) (i := 7))))))
  (simS_seq (simS_if (SimT.lf (sim_and (sim_test (sim_op2 (m := none) h_gt op2_gt (sim_V (m := none) (i := 8)) (sim_int (m := none)))) (sim_test (sim_op2 (m := none) h_is op2_is (sim_V (m := none) (i := 3)) (sim_non (m := none))))))
  (simS_set (i := 3) (by decide) (by decide) (Sim.lf (sim_fz (m := none) (sim_tup (simA_cons (sim_V (m := none) (i := 4)) (simA_cons (sim_V (m := none) (i := 5)) (simA_cons (sim_V (m := none) (i := 6)) (simA_cons (sim_V (m := none) (i := 7)) simA_nil))))))))
  simS_pass)
  (simS_set (i := 2) (by decide) (by decide) (Sim.lf (sim_CB opA_max2 (simV_cons (sim_V (m := none) (i := 2)) (simV_cons (sim_V (m := none) (i := 8)) simV_nil)))))))))))))))))))))
  (simS_ret (Sim.lf (sim_tup (simA_cons (sim_V (m := none) (i := 2)) (simA_cons (sim_V (m := none) (i := 3)) simA_nil)))))))))
/-! #### _law_d_due -/
abbrev N_law_d_due : List Str := ["table", "many", "t", "nones", "have", "gaps", "p", "s", "k"]
theorem sc_law_d_due : FnScope N_law_d_due ["table"] (defScope s_law_d_due) := ⟨rfl, rfl, rfl, by decide +kernel, rfl, by decide +kernel, by decide +kernel⟩
theorem b_law_d_due (T : Tx K mg) : Binds K T.d_law_d_due ["table"] [] := T.F_law_d_due.binds fun _ _ _ _ _ _ us hl => match us, hl with | [_], _ => rfl
theorem ok_law_d_due (T : Tx K mg) : FnOk P w K mg base (L2.CX P w) 2 T.a_law_d_due T.d_law_d_due ["table"] (spF ⟨K, mg⟩ 1 f_law_d_due) := by
  refine T.F_law_d_due.okX sc_law_d_due (fun vs H Q E h => spF_len rfl h) (fun cdv A outer s H vs Q E hr h => ?_)
  refine' ⟨_, ?p, body_F (names := N_law_d_due) (rea := [1, 2, 3, 4, 5, 6]) (chg := [1, 2, 3, 4, 5, 6]) ?q rfl h⟩
  case p => exact (pss_cons (ps_set (i := 1) sc_law_d_due.nd rfl (Or.inl rfl) (pe_callB (kLen (K := K) rfl) (by rfl) T.z_len PySem.boot_len (pa_cons (pv 0) pa_nil)))
  (pss_cons (ps_for (passes_of rfl) rfl (pi_range1 (by rfl) T.z_range (pa_cons (pv 1) pa_nil)) (pg_name (i := 2) sc_law_d_due.nd rfl (Or.inr rfl))
  (pss_cons (ps_setLc (i := 3) (own := [("s", 7)]) (by rfl) sc_law_d_due.nd rfl rfl (sw_true rfl rfl rfl (by decide +kernel)) (pi_range1 (by rfl) T.z_range (pa_cons (pv 1) pa_nil)) (blkOk_by (own := [("s", 7)]) (N := N_law_d_due) (sc := defScope s_law_d_due) (by decide +kernel)) (fun _ _ _ _ _ => (pg_name (i := 7) sc_law_d_due.nd rfl (Or.inl rfl))) (fun _ _ _ _ _ => (pts_one (pt_cmpR op_isA (pe_ix (kIx (K := K) rfl) (pe_ix (kIx (K := K) rfl) (pv 0) (pv 7) (fun _ _ => rfl)) (pv 2) (fun _ _ => rfl)) pe_non (nomark _)))) (fun _ _ _ _ _ => (pv 7)))
  (pss_cons (ps_setLc (i := 4) (own := [("s", 7)]) (by rfl) sc_law_d_due.nd rfl rfl (sw_true rfl rfl rfl (by decide +kernel)) (pi_range1 (by rfl) T.z_range (pa_cons (pv 1) pa_nil)) (blkOk_by (own := [("s", 7)]) (N := N_law_d_due) (sc := defScope s_law_d_due) (by decide +kernel)) (fun _ _ _ _ _ => (pg_name (i := 7) sc_law_d_due.nd rfl (Or.inl rfl))) (fun _ _ _ _ _ => (pts_one (pt_cmpR op_notN (pe_ix (kIx (K := K) rfl) (pe_ix (kIx (K := K) rfl) (pv 0) (pv 7) (fun _ _ => rfl)) (pv 2) (fun _ _ => rfl)) pe_non (nomark _)))) (fun _ _ _ _ _ => (pv 7)))
  (pss_one (ps_if (PW.pt (pw_and (pt_cmpR (kNe (K := K) rfl hr.units) (pv 3) (pe_lst pa_nil) (nomark _)) (pw_and1 (pt_cmpR (kNe (K := K) rfl hr.units) (pv 4) (pe_lst pa_nil) (nomark _)))))
  (pss_one (ps_ret (pe_tup (pa_cons (pe_tup (pa_cons pe_str (pa_cons (pv 2) (pa_cons (pe_ix (kIx (K := K) rfl) (pv 4) pe_int (fun _ _ => rfl)) (pa_cons (pe_ix (kIx (K := K) rfl) (pv 3) pe_int (fun _ _ => rfl)) pa_nil))))) (pa_cons pe_str pa_nil)))))
  pss_nil)))))
  (pss_cons (ps_set (i := 5) sc_law_d_due.nd rfl (Or.inl rfl) (pe_callSD (ok_law_d_gaps T) (hr.mono (by decide)) (by rfl) T.g_law_d_gaps T.F_law_d_gaps.kp (b_law_d_gaps T) .nil (fun σ => passAt (W := fun cls dx _ H' => E cls dx H') (takes_of rfl rfl rfl rfl) σ) (pa_cons (pv 0) pa_nil)))
  (pss_cons (ps_if (pt_cmpR op_notN (pe_ix (kIx (K := K) rfl) (pv 5) pe_int (fun _ _ => rfl)) pe_non (nomark _))
  (pss_one (ps_ret (pe_tup (pa_cons (pe_tup (pa_cons pe_str (pa_cons (pe_ix (kIx (K := K) rfl) (pe_ix (kIx (K := K) rfl) (pv 5) pe_int (fun _ _ => rfl)) pe_int (fun _ _ => rfl)) (pa_cons (pe_ix (kIx (K := K) rfl) (pe_ix (kIx (K := K) rfl) (pv 5) pe_int (fun _ _ => rfl)) pe_int (fun _ _ => rfl)) (pa_cons (pe_ix (kIx (K := K) rfl) (pe_ix (kIx (K := K) rfl) (pv 5) pe_int (fun _ _ => rfl)) pe_int (fun _ _ => rfl)) (pa_cons (pe_ix (kIx (K := K) rfl) (pe_ix (kIx (K := K) rfl) (pv 5) pe_int (fun _ _ => rfl)) pe_int (fun _ _ => rfl)) pa_nil)))))) (pa_cons (pe_ix (kIx (K := K) rfl) (pv 5) pe_int (fun _ _ => rfl)) pa_nil)))))
  pss_nil)
  (pss_cons (ps_set (i := 2) sc_law_d_due.nd rfl (Or.inr rfl) (pe_ix (kIx (K := K) rfl) (pe_lc (own := [("k", 8)]) (by rfl) sc_law_d_due.nd (pi_range1 (by rfl) T.z_range (pa_cons (pv 1) pa_nil)) (blkOk_by (own := [("k", 8)]) (N := N_law_d_due) (sc := defScope s_law_d_due) (by decide +kernel)) (fun _ _ _ _ _ => (pg_name (i := 8) sc_law_d_due.nd rfl (Or.inl rfl))) (fun _ _ _ _ _ => (pts_one (pt_cmpR op_notN (pe_ix (kIx (K := K) rfl) (pe_ix (kIx (K := K) rfl) (pv 0) pe_int (fun _ _ => rfl)) (pv 8) (fun _ _ => rfl)) pe_non (nomark _)))) (fun _ _ _ _ _ => (pv 8))) pe_int (fun _ _ => rfl)))
  (pss_cons (ps_setLc (i := 6) (own := [("s", 7)]) (by rfl) sc_law_d_due.nd rfl rfl (sw_true rfl rfl rfl (by decide +kernel)) (pi_range1 (by rfl) T.z_range (pa_cons (pv 1) pa_nil)) (blkOk_by (own := [("s", 7)]) (N := N_law_d_due) (sc := defScope s_law_d_due) (by decide +kernel)) (fun _ _ _ _ _ => (pg_name (i := 7) sc_law_d_due.nd rfl (Or.inl rfl))) (fun _ _ _ _ _ => pts_nil) (fun _ _ _ _ _ => (pe_op op_sub (pe_ix (kIx (K := K) rfl) (pe_ix (kIx (K := K) rfl) (pv 0) (pv 7) (fun _ _ => rfl)) (pv 2) (fun _ _ => rfl)) (pe_ix (kIx (K := K) rfl) (pe_ix (kIx (K := K) rfl) (pv 0) pe_int (fun _ _ => rfl)) (pv 2) (fun _ _ => rfl)))))
  (pss_one (ps_ret (pe_tup (pa_cons (pe_tup (pa_cons pe_str (pa_cons (pv 6) (pa_cons (pe_callTy (kList (K := K) rfl) (by rfl) T.z_list PySem.Pv.boot_list (pa_cons (pe_ix (kIx (K := K) rfl) (pv 0) pe_int (fun _ _ => rfl)) pa_nil)) pa_nil)))) (pa_cons pe_int pa_nil)))))))))))
  case q => exact (simS_seq (simS_set (i := 1) (by decide) (by decide) (Sim.lf (sim_CB opA_len (simV_cons (sim_V (m := none) (i := 0)) simV_nil))))
  (simS_seq (simS_forget (vs := [2, 3, 4]) (by decide) (simS_for (f := b1_law_d_due) (m1 := none) (sim_itR1 (simV_cons (sim_V (m := none) (i := 1)) simV_nil)) nomode (sim_name (i := 2)) (by decide) (by decide)
  (simS_forget (vs := [2, 3, 4]) (by decide) (simS_seq (simS_set (i := 3) (by decide) (by decide) (Sim.lf (sim_fz (m := none) (sim_lc (m1 := none) (sim_itR1 (simV_cons (sim_V (m := none) (i := 1)) simV_nil)) (sim_name (i := 7)) (by decide) (sim_test (sim_op2 (m := none) h_is op2_is (sim_ix h_ix op2_ix (sim_ix h_ix op2_ix (sim_V (m := none) (i := 0)) (sim_V (m := none) (i := 7))) (sim_V (m := none) (i := 2))) (sim_non (m := none)))) (sim_V (m := none) (i := 7))))))
  (simS_seq (simS_set (i := 4) (by decide) (by decide) (Sim.lf (sim_fz (m := none) (sim_lc (m1 := none) (sim_itR1 (simV_cons (sim_V (m := none) (i := 1)) simV_nil)) (sim_name (i := 7)) (by decide) (sim_test (sim_op2 (m := none) h_isNot op2_isNot (sim_ix h_ix op2_ix (sim_ix h_ix op2_ix (sim_V (m := none) (i := 0)) (sim_V (m := none) (i := 7))) (sim_V (m := none) (i := 2))) (sim_non (m := none)))) (sim_V (m := none) (i := 7))))))
  (simS_if (SimT.lf (sim_and (sim_test (sim_op2 (m := none) h_ne op2_ne (sim_V (m := none) (i := 3)) (sim_lst simA_nil))) (sim_test (sim_op2 (m := none) h_ne op2_ne (sim_V (m := none) (i := 4)) (sim_lst simA_nil)))))
  (simS_ret (Sim.lf (sim_tup (simA_cons (sim_tup (simA_cons (sim_str (m := none)) (simA_cons (sim_V (m := none) (i := 2)) (simA_cons (sim_ix h_ix op2_ix (sim_V (m := none) (i := 4)) (sim_int (m := none))) (simA_cons (sim_ix h_ix op2_ix (sim_V (m := none) (i := 3)) (sim_int (m := none))) simA_nil))))) (simA_cons (sim_str (m := none)) simA_nil)))))
  simS_pass))))))
  (simS_seq (simS_set (i := 5) (by decide) (by decide) (Sim.lf (sim_fz (m := none) (sim_call (simA_cons (sim_V (m := none) (i := 0)) simA_nil)))))
  (simS_seq (simS_if (SimT.lf (sim_test (sim_op2 (m := none) h_isNot op2_isNot (sim_ix h_ix op2_ix (sim_V (m := none) (i := 5)) (sim_int (m := none))) (sim_non (m := none)))))
  (simS_ret (Sim.lf (sim_tup (simA_cons (sim_tup (simA_cons (sim_str (m := none)) (simA_cons (sim_ix h_ix op2_ix (sim_ix h_ix op2_ix (sim_V (m := none) (i := 5)) (sim_int (m := none))) (sim_int (m := none))) (simA_cons (sim_ix h_ix op2_ix (sim_ix h_ix op2_ix (sim_V (m := none) (i := 5)) (sim_int (m := none))) (sim_int (m := none))) (simA_cons (sim_ix h_ix op2_ix (sim_ix h_ix op2_ix (sim_V (m := none) (i := 5)) (sim_int (m := none))) (sim_int (m := none))) (simA_cons (sim_ix h_ix op2_ix (sim_ix h_ix op2_ix (sim_V (m := none) (i := 5)) (sim_int (m := none))) (sim_int (m := none))) simA_nil)))))) (simA_cons (sim_ix h_ix op2_ix (sim_V (m := none) (i := 5)) (sim_int (m := none))) simA_nil)))))
  simS_pass)
  (simS_seq (simS_set (i := 2) (by decide) (by decide) (Sim.lf (sim_fz (m := none) (sim_ix h_ix op2_ix (sim_lc (m1 := none) (sim_itR1 (simV_cons (sim_V (m := none) (i := 1)) simV_nil)) (sim_name (i := 8)) (by decide) (sim_test (sim_op2 (m := none) h_isNot op2_isNot (sim_ix h_ix op2_ix (sim_ix h_ix op2_ix (sim_V (m := none) (i := 0)) (sim_int (m := none))) (sim_V (m := none) (i := 8))) (sim_non (m := none)))) (sim_V (m := none) (i := 8))) (sim_int (m := none))))))
  (simS_seq (simS_set (i := 6) (by decide) (by decide) (Sim.lf (sim_fz (m := none) (sim_lc (m1 := none) (sim_itR1 (simV_cons (sim_V (m := none) (i := 1)) simV_nil)) (sim_name (i := 7)) (by decide) simT_yes (sim_op2 (m := none) h_sub op2_sub (sim_ix h_ix op2_ix (sim_ix h_ix op2_ix (sim_V (m := none) (i := 0)) (sim_V (m := none) (i := 7))) (sim_V (m := none) (i := 2))) (sim_ix h_ix op2_ix (sim_ix h_ix op2_ix (sim_V (m := none) (i := 0)) (sim_int (m := none))) (sim_V (m := none) (i := 2))))))))
  (simS_ret (Sim.lf (sim_tup (simA_cons (sim_tup (simA_cons (sim_str (m := none)) (simA_cons (sim_V (m := none) (i := 6)) (simA_cons (sim_CB opA_list (simV_cons (sim_ix h_ix op2_ix (sim_V (m := none) (i := 0)) (sim_int (m := none))) simV_nil)) simA_nil)))) (simA_cons (sim_int (m := none)) simA_nil)))))))))))
/-! #### law -/
abbrev N_law : List Str := ["script", "one", "two", "due_one", "due_two", "table", "due", "handed", "told", "s", "t", "sum_here", "line"]
theorem sc_law : FnScope N_law ["script"] (defScope s_law) := ⟨rfl, rfl, rfl, by decide +kernel, rfl, by decide +kernel, by decide +kernel⟩
theorem b_law (T : Tx K mg) : Binds K T.d_law ["script"] [] := T.F_law.binds fun _ _ _ _ _ _ us hl => match us, hl with | [_], _ => rfl
theorem ok_law (T : Tx K mg) : FnOk P w K mg base (L2.CX P w) 10 T.a_law T.d_law ["script"] (spF ⟨K, mg⟩ 1 f_law) := by
  refine T.F_law.okX sc_law (fun vs H Q E h => spF_len rfl h) (fun cdv A outer s H vs Q E hr h => ?_)
  refine' ⟨_, ?p, body_F (names := N_law) (rea := [1, 2, 3, 4, 5, 6, 7, 8, 9, 10, 11]) (chg := [1, 2, 3, 4, 5, 6, 7, 8, 9, 10, 11]) ?q rfl h⟩
  case p => exact (pss_cons (ps_set (i := 1) sc_law.nd rfl (Or.inl rfl) (pe_callSD (ok_law_d_drawn_table T) (hr.mono (by decide)) (by rfl) T.g_law_d_drawn_table T.F_law_d_drawn_table.kp (b_law_d_drawn_table T) .nil (fun σ => passAt (W := fun cls dx _ H' => E cls dx H') (takes_of rfl rfl rfl rfl) σ) (pa_cons (pe_callSD (ok_law_source T) (hr.mono (by decide)) (by rfl) T.g_law_source T.F_law_source.kp (b_law_source T) .nil (fun σ => passAt (W := fun cls dx _ H' => E cls dx H') (takes_of rfl rfl rfl rfl) σ) (pa_cons (pv 0) (pa_cons pe_int pa_nil))) pa_nil)))
  (pss_cons (ps_set (i := 2) sc_law.nd rfl (Or.inl rfl) (pe_callSD (ok_law_d_drawn_table T) (hr.mono (by decide)) (by rfl) T.g_law_d_drawn_table T.F_law_d_drawn_table.kp (b_law_d_drawn_table T) .nil (fun σ => passAt (W := fun cls dx _ H' => E cls dx H') (takes_of rfl rfl rfl rfl) σ) (pa_cons (pe_callSD (ok_law_source T) (hr.mono (by decide)) (by rfl) T.g_law_source T.F_law_source.kp (b_law_source T) .nil (fun σ => passAt (W := fun cls dx _ H' => E cls dx H') (takes_of rfl rfl rfl rfl) σ) (pa_cons (pv 0) (pa_cons pe_int pa_nil))) pa_nil)))
  (pss_cons (ps_set (i := 3) sc_law.nd rfl (Or.inl rfl) (pe_callSD (ok_law_d_due T) (hr.mono (by decide)) (by rfl) T.g_law_d_due T.F_law_d_due.kp (b_law_d_due T) .nil (fun σ => passAt (W := fun cls dx _ H' => E cls dx H') (takes_of rfl rfl rfl rfl) σ) (pa_cons (pv 1) pa_nil)))
  (pss_cons (ps_set (i := 4) sc_law.nd rfl (Or.inl rfl) (pe_callSD (ok_law_d_due T) (hr.mono (by decide)) (by rfl) T.g_law_d_due T.F_law_d_due.kp (b_law_d_due T) .nil (fun σ => passAt (W := fun cls dx _ H' => E cls dx H') (takes_of rfl rfl rfl rfl) σ) (pa_cons (pv 2) pa_nil)))
  (pss_cons (ps_for (passes_of rfl) rfl (kPiL (K := K) rfl (pe_lst (pa_cons (pe_tup (pa_cons (pv 1) (pa_cons (pv 3) pa_nil))) (pa_cons (pe_tup (pa_cons (pv 2) (pa_cons (pv 4) pa_nil))) (pa_cons (pe_tup (pa_cons (pv 1) (pa_cons (pv 3) pa_nil))) pa_nil))))) (kGt (K := K) (n := 2) rfl rfl (pgs_cons (pg_name (i := 5) sc_law.nd rfl (Or.inl rfl)) (pgs_cons (pg_name (i := 6) sc_law.nd rfl (Or.inl rfl)) pgs_nil)))
  (pss_cons (ps_setLc (i := 7) (own := [("line", 12)]) (by rfl) sc_law.nd rfl rfl (sw_true rfl rfl rfl (by decide +kernel)) (kPiL (K := K) rfl (pv 5)) (blkOk_by (own := [("line", 12)]) (N := N_law) (sc := defScope s_law) (by decide +kernel)) (fun _ _ _ _ _ => (pg_name (i := 12) sc_law.nd rfl (Or.inl rfl))) (fun _ _ _ _ _ => pts_nil) (fun _ _ _ _ _ => (pe_callTy (kList (K := K) rfl) (by rfl) T.z_list PySem.Pv.boot_list (pa_cons (pv 12) pa_nil))))
  (pss_cons (ps_set (i := 8) sc_law.nd rfl (Or.inl rfl) (pe_callSD (ok_wall_of T) (hr.mono (by decide)) (by rfl) T.g_wall_of T.F_wall_of.kp (b_wall_of T) .nil (fun σ => passAt (W := fun cls dx _ H' => E cls dx H') (takes_of rfl rfl rfl rfl) σ) (pa_cons (pv 7) pa_nil)))
  (pss_cons (ps_if (PW.pt (pw_or (pt_not (kTru (K := K) rfl (pe_callSD (ok_law_same T 8) (hr.mono (by decide)) (by rfl) T.g_law_same T.F_law_same.kp (b_law_same T) .nil (fun σ => passAt (W := fun cls dx _ H' => E cls dx H') (takes_of rfl rfl rfl rfl) σ) (pa_cons (pv 8) (pa_cons (pe_ix (kIx (K := K) rfl) (pv 6) pe_int (fun _ _ => rfl)) pa_nil))) (fun _ => rfl))) (pw_or1 (pt_not (kTru (K := K) rfl (pe_callSD (ok_law_same T 8) (hr.mono (by decide)) (by rfl) T.g_law_same T.F_law_same.kp (b_law_same T) .nil (fun σ => passAt (W := fun cls dx _ H' => E cls dx H') (takes_of rfl rfl rfl rfl) σ) (pa_cons (pe_callSD (ok_spread_of T) (hr.mono (by decide)) (by rfl) T.g_spread_of T.F_spread_of.kp (b_spread_of T) .nil (fun σ => passAt (W := fun cls dx _ H' => E cls dx H') (takes_of rfl rfl rfl rfl) σ) (pa_cons (pv 7) pa_nil)) (pa_cons (pe_ix (kIx (K := K) rfl) (pv 6) pe_int (fun _ _ => rfl)) pa_nil))) (fun _ => rfl))))))
  (pss_one (ps_ret pe_bl))
  pss_nil)
  (pss_cons (ps_if (pt_not (kTru (K := K) rfl (pe_callSD (ok_law_same T 8) (hr.mono (by decide)) (by rfl) T.g_law_same T.F_law_same.kp (b_law_same T) .nil (fun σ => passAt (W := fun cls dx _ H' => E cls dx H') (takes_of rfl rfl rfl rfl) σ) (pa_cons (pv 7) (pa_cons (pv 5) pa_nil))) (fun _ => rfl)))
  (pss_one (ps_ret pe_bl))
  pss_nil)
  (pss_one (ps_if (pt_cmpR (kEq (K := K) rfl hr.units) (pe_ix (kIx (K := K) rfl) (pe_ix (kIx (K := K) rfl) (pv 6) pe_int (fun _ _ => rfl)) pe_int (fun _ _ => rfl)) pe_str (nomark _))
  (pss_cons (ps_for (passes_of rfl) rfl (pi_range1 (by rfl) T.z_range (pa_cons (pe_callB (kLen (K := K) rfl) (by rfl) T.z_len PySem.boot_len (pa_cons (pv 5) pa_nil)) pa_nil)) (pg_name (i := 9) sc_law.nd rfl (Or.inl rfl))
  (pss_one (ps_for (passes_of rfl) rfl (pi_range1 (by rfl) T.z_range (pa_cons (pe_callB (kLen (K := K) rfl) (by rfl) T.z_len PySem.boot_len (pa_cons (pv 5) pa_nil)) pa_nil)) (pg_name (i := 10) sc_law.nd rfl (Or.inl rfl))
  (pss_cons (ps_set (i := 11) sc_law.nd rfl (Or.inl rfl) (pe_ifExp (pt_cmpR op_isA (pe_ix (kIx (K := K) rfl) (pe_ix (kIx (K := K) rfl) (pv 8) pe_int (fun _ _ => rfl)) (pv 10) (fun _ _ => rfl)) pe_non (nomark _)) pe_non (pe_op op_addA (pe_ix (kIx (K := K) rfl) (pe_ix (kIx (K := K) rfl) (pv 8) pe_int (fun _ _ => rfl)) (pv 9) (fun _ _ => rfl)) (pe_ix (kIx (K := K) rfl) (pe_ix (kIx (K := K) rfl) (pv 8) pe_int (fun _ _ => rfl)) (pv 10) (fun _ _ => rfl)))))
  (pss_one (ps_if (pt_not (kTru (K := K) rfl (pe_callSD (ok_law_same T 8) (hr.mono (by decide)) (by rfl) T.g_law_same T.F_law_same.kp (b_law_same T) .nil (fun σ => passAt (W := fun cls dx _ H' => E cls dx H') (takes_of rfl rfl rfl rfl) σ) (pa_cons (pv 11) (pa_cons (pe_ix (kIx (K := K) rfl) (pe_ix (kIx (K := K) rfl) (pv 5) (pv 9) (fun _ _ => rfl)) (pv 10) (fun _ _ => rfl)) pa_nil))) (fun _ => rfl)))
  (pss_one (ps_ret pe_bl))
  pss_nil))))))
  (pss_cons (ps_asg pe_int (pg_sub (pe_ix (kIx (K := K) rfl) (pv 8) pe_int (fun _ _ => rfl)) pe_int set_list))
  (pss_one (ps_expr (pe_bm PySem.F.plainAttrs_list PySem.F.slot_list_append PySem.F.type_list_append mt_append (pe_ix (kIx (K := K) rfl) (pv 8) pe_int (fun _ _ => rfl)) (pa_cons pe_int pa_nil))))))
  pss_nil)))))))
  (pss_one (ps_ret pe_bl)))))))
  case q => exact (simS_seq (simS_set (i := 1) (by decide) (by decide) (Sim.lf (sim_fz (m := none) (sim_call (simA_cons (sim_call (simA_cons (sim_V (m := none) (i := 0)) (simA_cons (sim_int (m := none)) simA_nil))) simA_nil)))))
  (simS_seq (simS_set (i := 2) (by decide) (by decide) (Sim.lf (sim_fz (m := none) (sim_call (simA_cons (sim_call (simA_cons (sim_V (m := none) (i := 0)) (simA_cons (sim_int (m := none)) simA_nil))) simA_nil)))))
  (simS_seq (simS_set (i := 3) (by decide) (by decide) (Sim.lf (sim_fz (m := none) (sim_call (simA_cons (sim_V (m := none) (i := 1)) simA_nil)))))
  (simS_seq (simS_set (i := 4) (by decide) (by decide) (Sim.lf (sim_fz (m := none) (sim_call (simA_cons (sim_V (m := none) (i := 2)) simA_nil)))))
  (simS_seq (simS_forget (vs := [5, 6, 7, 8, 9, 10, 11]) (by decide) (simS_for (f := b3_law) (m1 := none) (sim_itL (sim_lst (simA_cons (sim_tup (simA_cons (sim_V (m := none) (i := 1)) (simA_cons (sim_V (m := none) (i := 3)) simA_nil))) (simA_cons (sim_tup (simA_cons (sim_V (m := none) (i := 2)) (simA_cons (sim_V (m := none) (i := 4)) simA_nil))) (simA_cons (sim_tup (simA_cons (sim_V (m := none) (i := 1)) (simA_cons (sim_V (m := none) (i := 3)) simA_nil))) simA_nil))))) nomode (sim_gtup (sims_cons (sim_name (i := 5)) (sims_cons (sim_name (i := 6)) sims_nil))) (by decide) (by decide)
  (simS_forget (vs := [5, 6, 7, 8, 9, 10, 11]) (by decide) (simS_seq (simS_set (i := 7) (by decide) (by decide) (Sim.lf (sim_fz (m := none) (sim_lc (m1 := none) (sim_itL (sim_V (m := none) (i := 5))) (sim_name (i := 12)) (by decide) simT_yes (sim_CB opA_list (simV_cons (sim_V (m := none) (i := 12)) simV_nil))))))
  (simS_seq (simS_set (i := 8) (by decide) (by decide) (Sim.lf (sim_call (simA_cons (sim_V (m := none) (i := 7)) simA_nil))))
  (simS_seq (simS_if (SimT.lf (sim_or (sim_not (sim_tru (sim_callB (m := none) (simB_cons (sim_P (i := 8)) (simB_cons (sim_ix h_ix op2_ix (sim_V (m := none) (i := 6)) (sim_int (m := none))) simB_nil))))) (sim_not (sim_tru (sim_call (simA_cons (sim_call (simA_cons (sim_V (m := none) (i := 7)) simA_nil)) (simA_cons (sim_ix h_ix op2_ix (sim_V (m := none) (i := 6)) (sim_int (m := none))) simA_nil)))))))
  (simS_ret (Sim.lf (sim_bl (m := none))))
  simS_pass)
  (simS_seq (simS_if (SimT.lf (sim_not (sim_tru (sim_call (simA_cons (sim_V (m := none) (i := 7)) (simA_cons (sim_V (m := none) (i := 5)) simA_nil))))))
  (simS_ret (Sim.lf (sim_bl (m := none))))
  simS_pass)
  (simS_forget (vs := [9, 10, 11]) (by decide) (simS_if (SimT.lf (sim_test (sim_op2 (m := none) h_eq op2_eq (sim_ix h_ix op2_ix (sim_ix h_ix op2_ix (sim_V (m := none) (i := 6)) (sim_int (m := none))) (sim_int (m := none))) (sim_str (m := none)))))
  (simS_seq (simS_forget (vs := [9, 10, 11]) (by decide) (simS_for (f := b2_law) (m1 := none) (sim_itR1 (simV_cons (sim_CB opA_len (simV_cons (sim_V (m := none) (i := 5)) simV_nil)) simV_nil)) nomode (sim_name (i := 9)) (by decide) (by decide)
  (simS_forget (vs := [9, 10, 11]) (by decide) (simS_forget (vs := [10, 11]) (by decide) (simS_for (f := b1_law) (m1 := none) (sim_itR1 (simV_cons (sim_CB opA_len (simV_cons (sim_V (m := none) (i := 5)) simV_nil)) simV_nil)) nomode (sim_name (i := 10)) (by decide) (by decide)
  (simS_forget (vs := [10, 11]) (by decide) (simS_seq (simS_set (i := 11) (by decide) (by decide) (Sim.lf (sim_fz (m := none) (sim_if (sim_test (sim_op2 (m := none) h_is op2_is (sim_ix h_ix op2_ix (sim_ix h_ix op2_ix (sim_P (i := 8)) (sim_int (m := none))) (sim_V (m := none) (i := 10))) (sim_non (m := none)))) (sim_non (m := none)) (sim_op2 (m := none) h_add op2_add (sim_ix h_ix op2_ix (sim_ix h_ix op2_ix (sim_P (i := 8)) (sim_int (m := none))) (sim_V (m := none) (i := 9))) (sim_ix h_ix op2_ix (sim_ix h_ix op2_ix (sim_P (i := 8)) (sim_int (m := none))) (sim_V (m := none) (i := 10))))))))
  (simS_if (SimT.lf (sim_not (sim_tru (sim_call (simA_cons (sim_V (m := none) (i := 11)) (simA_cons (sim_ix h_ix op2_ix (sim_ix h_ix op2_ix (sim_V (m := none) (i := 5)) (sim_V (m := none) (i := 9))) (sim_V (m := none) (i := 10))) simA_nil))))))
  (simS_ret (Sim.lf (sim_bl (m := none))))
  simS_pass))))))))
  (simS_seq (simS_setIx (μ := []) (Sim.lf (sim_int (m := none))) (simPl_ix (simPl_N (r := 8)) (sim_int (m := none))) (Sim.lf (sim_int (m := none))) (by decide) (by decide) (by decide))
  (simS_app (μ := []) (simPl_ix (simPl_N (r := 8)) (sim_int (m := none))) (Sim.lf (sim_int (m := none))) (by decide) (by decide) (by decide))))
  simS_pass)))))))))
  (simS_ret (Sim.lf (sim_bl (m := none)))))))))
end
theorem all_mk {l : PySem.W.OpenLaw} {w : World} {K : PySem.W.Frag} {h : Heap} {mg : Str → Option Value} {fa f1 f2 f3 f4 f5 f6 f7 f8 f9 f10 f11 f12 f13 f14 f15 : Addr} (X : K.In h) (G : h.Ns mainGlobals mg) (hfa : mg "law" = some (.ref fa))
    {od1 an1 : Option Addr} {sl1 : Array (Option Value)} {oc1 kV1 dc1 pm1 cd1 ct1 : Value}
    {od2 an2 : Option Addr} {sl2 : Array (Option Value)} {oc2 kV2 dc2 pm2 cd2 ct2 : Value}
    {od3 an3 : Option Addr} {sl3 : Array (Option Value)} {oc3 kV3 dc3 pm3 cd3 ct3 : Value}
    {od4 an4 : Option Addr} {sl4 : Array (Option Value)} {oc4 kV4 dc4 pm4 cd4 ct4 : Value}
    {od5 an5 : Option Addr} {sl5 : Array (Option Value)} {oc5 kV5 dc5 pm5 cd5 ct5 : Value}
    {od6 an6 : Option Addr} {sl6 : Array (Option Value)} {oc6 kV6 dc6 pm6 cd6 ct6 : Value}
    {od7 an7 : Option Addr} {sl7 : Array (Option Value)} {oc7 kV7 dc7 pm7 cd7 ct7 : Value}
    {od8 an8 : Option Addr} {sl8 : Array (Option Value)} {oc8 kV8 dc8 pm8 cd8 ct8 : Value}
    {od9 an9 : Option Addr} {sl9 : Array (Option Value)} {oc9 kV9 dc9 pm9 cd9 ct9 : Value}
    {od10 an10 : Option Addr} {sl10 : Array (Option Value)} {oc10 kV10 dc10 pm10 cd10 ct10 : Value}
    {od11 an11 : Option Addr} {sl11 : Array (Option Value)} {oc11 kV11 dc11 pm11 cd11 ct11 : Value}
    {od12 an12 : Option Addr} {sl12 : Array (Option Value)} {oc12 kV12 dc12 pm12 cd12 ct12 : Value}
    {od13 an13 : Option Addr} {sl13 : Array (Option Value)} {oc13 kV13 dc13 pm13 cd13 ct13 : Value}
    {od14 an14 : Option Addr} {sl14 : Array (Option Value)} {oc14 kV14 dc14 pm14 cd14 ct14 : Value}
    {od15 an15 : Option Addr} {sl15 : Array (Option Value)} {oc15 kV15 dc15 pm15 cd15 ct15 : Value}
    (a1 : PySem.W.nsIn K mainGlobals "mixed_column" = some (some (.ref f1))) (l1 : K.lookup f1 = some ⟨oc1, od1, .func (PySem.W.fnOf "mixed_column" "mixed_column" (defArgs s_mixed_column) (defBody s_mixed_column) (defScope s_mixed_column) .none kV1 dc1 pm1 an1 cd1 ct1), sl1⟩) (c1 : PySem.W.codeIn K cd1 "mixed_column" = true) (k1 : PySem.W.keepIn K (.ref f1) = true)
    (a2 : PySem.W.nsIn K mainGlobals "number_columns" = some (some (.ref f2))) (l2 : K.lookup f2 = some ⟨oc2, od2, .func (PySem.W.fnOf "number_columns" "number_columns" (defArgs s_number_columns) (defBody s_number_columns) (defScope s_number_columns) .none kV2 dc2 pm2 an2 cd2 ct2), sl2⟩) (c2 : PySem.W.codeIn K cd2 "number_columns" = true) (k2 : PySem.W.keepIn K (.ref f2) = true)
    (a3 : PySem.W.nsIn K mainGlobals "spread_of" = some (some (.ref f3))) (l3 : K.lookup f3 = some ⟨oc3, od3, .func (PySem.W.fnOf "spread_of" "spread_of" (defArgs s_spread_of) (defBody s_spread_of) (defScope s_spread_of) .none kV3 dc3 pm3 an3 cd3 ct3), sl3⟩) (c3 : PySem.W.codeIn K cd3 "spread_of" = true) (k3 : PySem.W.keepIn K (.ref f3) = true)
    (a4 : PySem.W.nsIn K mainGlobals "row_sums" = some (some (.ref f4))) (l4 : K.lookup f4 = some ⟨oc4, od4, .func (PySem.W.fnOf "row_sums" "row_sums" (defArgs s_row_sums) (defBody s_row_sums) (defScope s_row_sums) .none kV4 dc4 pm4 an4 cd4 ct4), sl4⟩) (c4 : PySem.W.codeIn K cd4 "row_sums" = true) (k4 : PySem.W.keepIn K (.ref f4) = true)
    (a5 : PySem.W.nsIn K mainGlobals "gap_from" = some (some (.ref f5))) (l5 : K.lookup f5 = some ⟨oc5, od5, .func (PySem.W.fnOf "gap_from" "gap_from" (defArgs s_gap_from) (defBody s_gap_from) (defScope s_gap_from) .none kV5 dc5 pm5 an5 cd5 ct5), sl5⟩) (c5 : PySem.W.codeIn K cd5 "gap_from" = true) (k5 : PySem.W.keepIn K (.ref f5) = true)
    (a6 : PySem.W.nsIn K mainGlobals "least_gap" = some (some (.ref f6))) (l6 : K.lookup f6 = some ⟨oc6, od6, .func (PySem.W.fnOf "least_gap" "least_gap" (defArgs s_least_gap) (defBody s_least_gap) (defScope s_least_gap) .none kV6 dc6 pm6 an6 cd6 ct6), sl6⟩) (c6 : PySem.W.codeIn K cd6 "least_gap" = true) (k6 : PySem.W.keepIn K (.ref f6) = true)
    (a7 : PySem.W.nsIn K mainGlobals "wall_of" = some (some (.ref f7))) (l7 : K.lookup f7 = some ⟨oc7, od7, .func (PySem.W.fnOf "wall_of" "wall_of" (defArgs s_wall_of) (defBody s_wall_of) (defScope s_wall_of) .none kV7 dc7 pm7 an7 cd7 ct7), sl7⟩) (c7 : PySem.W.codeIn K cd7 "wall_of" = true) (k7 : PySem.W.keepIn K (.ref f7) = true)
    (a8 : PySem.W.nsIn K mainGlobals "_law_source" = some (some (.ref f8))) (l8 : K.lookup f8 = some ⟨oc8, od8, .func (PySem.W.fnOf "_law_source" "_law_source" (defArgs s_law_source) (defBody s_law_source) (defScope s_law_source) .none kV8 dc8 pm8 an8 cd8 ct8), sl8⟩) (c8 : PySem.W.codeIn K cd8 "_law_source" = true) (k8 : PySem.W.keepIn K (.ref f8) = true)
    (a9 : PySem.W.nsIn K mainGlobals "_law_pick" = some (some (.ref f9))) (l9 : K.lookup f9 = some ⟨oc9, od9, .func (PySem.W.fnOf "_law_pick" "_law_pick" (defArgs s_law_pick) (defBody s_law_pick) (defScope s_law_pick) .none kV9 dc9 pm9 an9 cd9 ct9), sl9⟩) (c9 : PySem.W.codeIn K cd9 "_law_pick" = true) (k9 : PySem.W.keepIn K (.ref f9) = true)
    (a10 : PySem.W.nsIn K mainGlobals "_law_same" = some (some (.ref f10))) (l10 : K.lookup f10 = some ⟨oc10, od10, .func (PySem.W.fnOf "_law_same" "_law_same" (defArgs s_law_same) (defBody s_law_same) (defScope s_law_same) .none kV10 dc10 pm10 an10 cd10 ct10), sl10⟩) (c10 : PySem.W.codeIn K cd10 "_law_same" = true) (k10 : PySem.W.keepIn K (.ref f10) = true)
    (a11 : PySem.W.nsIn K mainGlobals "_law_d_sum_table" = some (some (.ref f11))) (l11 : K.lookup f11 = some ⟨oc11, od11, .func (PySem.W.fnOf "_law_d_sum_table" "_law_d_sum_table" (defArgs s_law_d_sum_table) (defBody s_law_d_sum_table) (defScope s_law_d_sum_table) .none kV11 dc11 pm11 an11 cd11 ct11), sl11⟩) (c11 : PySem.W.codeIn K cd11 "_law_d_sum_table" = true) (k11 : PySem.W.keepIn K (.ref f11) = true)
    (a12 : PySem.W.nsIn K mainGlobals "_law_d_drawn_table" = some (some (.ref f12))) (l12 : K.lookup f12 = some ⟨oc12, od12, .func (PySem.W.fnOf "_law_d_drawn_table" "_law_d_drawn_table" (defArgs s_law_d_drawn_table) (defBody s_law_d_drawn_table) (defScope s_law_d_drawn_table) .none kV12 dc12 pm12 an12 cd12 ct12), sl12⟩) (c12 : PySem.W.codeIn K cd12 "_law_d_drawn_table" = true) (k12 : PySem.W.keepIn K (.ref f12) = true)
    (a13 : PySem.W.nsIn K mainGlobals "_law_d_gaps" = some (some (.ref f13))) (l13 : K.lookup f13 = some ⟨oc13, od13, .func (PySem.W.fnOf "_law_d_gaps" "_law_d_gaps" (defArgs s_law_d_gaps) (defBody s_law_d_gaps) (defScope s_law_d_gaps) .none kV13 dc13 pm13 an13 cd13 ct13), sl13⟩) (c13 : PySem.W.codeIn K cd13 "_law_d_gaps" = true) (k13 : PySem.W.keepIn K (.ref f13) = true)
    (a14 : PySem.W.nsIn K mainGlobals "_law_d_due" = some (some (.ref f14))) (l14 : K.lookup f14 = some ⟨oc14, od14, .func (PySem.W.fnOf "_law_d_due" "_law_d_due" (defArgs s_law_d_due) (defBody s_law_d_due) (defScope s_law_d_due) .none kV14 dc14 pm14 an14 cd14 ct14), sl14⟩) (c14 : PySem.W.codeIn K cd14 "_law_d_due" = true) (k14 : PySem.W.keepIn K (.ref f14) = true)
    (a15 : PySem.W.nsIn K mainGlobals "law" = some (some (.ref f15))) (l15 : K.lookup f15 = some ⟨oc15, od15, .func (PySem.W.fnOf "law" "law" (defArgs s_law) (defBody s_law) (defScope s_law) .none kV15 dc15 pm15 an15 cd15 ct15), sl15⟩) (c15 : PySem.W.codeIn K cd15 "law" = true) (k15 : PySem.W.keepIn K (.ref f15) = true)
    (z_abs : PySem.W.nsIn K mainGlobals "abs" = some none)
    (z_bool : PySem.W.nsIn K mainGlobals "bool" = some none)
    (z_enumerate : PySem.W.nsIn K mainGlobals "enumerate" = some none)
    (z_int : PySem.W.nsIn K mainGlobals "int" = some none)
    (z_isinstance : PySem.W.nsIn K mainGlobals "isinstance" = some none)
    (z_len : PySem.W.nsIn K mainGlobals "len" = some none)
    (z_list : PySem.W.nsIn K mainGlobals "list" = some none)
    (z_max : PySem.W.nsIn K mainGlobals "max" = some none)
    (z_min : PySem.W.nsIn K mainGlobals "min" = some none)
    (z_range : PySem.W.nsIn K mainGlobals "range" = some none)
    (z_str : PySem.W.nsIn K mainGlobals "str" = some none)
    (z_tuple : PySem.W.nsIn K mainGlobals "tuple" = some none)
    (hl : ∀ ns : List Int, ns.length ≤ 63 → ∃ ds, f_law [scr ns] = .ok (.bl true) ds) :
    ∃ fd : FuncData, (∀ (s : Shared) (v : Value), BindsTo s fd ⟨[v], []⟩ [("script", v)]) ∧ ∀ base : Heap, K.In base → base.Ns mainGlobals mg → FnOk l.prog w K mg base (L2.CX l.prog w) 10 fa fd ["script"] (spLaw K) := by
  have e := hfa.symm.trans (PySem.W.mg_of X G a15)
  cases e
  have F1 := fun_mk (st := s_mixed_column) l1 c1 k1
  have F2 := fun_mk (st := s_number_columns) l2 c2 k2
  have F3 := fun_mk (st := s_spread_of) l3 c3 k3
  have F4 := fun_mk (st := s_row_sums) l4 c4 k4
  have F5 := fun_mk (st := s_gap_from) l5 c5 k5
  have F6 := fun_mk (st := s_least_gap) l6 c6 k6
  have F7 := fun_mk (st := s_wall_of) l7 c7 k7
  have F8 := fun_mk (st := s_law_source) l8 c8 k8
  have F9 := fun_mk (st := s_law_pick) l9 c9 k9
  have F10 := fun_mk (st := s_law_same) l10 c10 k10
  have F11 := fun_mk (st := s_law_d_sum_table) l11 c11 k11
  have F12 := fun_mk (st := s_law_d_drawn_table) l12 c12 k12
  have F13 := fun_mk (st := s_law_d_gaps) l13 c13 k13
  have F14 := fun_mk (st := s_law_d_due) l14 c14 k14
  have F15 := fun_mk (st := s_law) l15 c15 k15
  let T : Tx K mg := { a_mixed_column := f1, d_mixed_column := _, g_mixed_column := PySem.W.mg_of X G a1, F_mixed_column := F1, a_number_columns := f2, d_number_columns := _, g_number_columns := PySem.W.mg_of X G a2, F_number_columns := F2, a_spread_of := f3, d_spread_of := _, g_spread_of := PySem.W.mg_of X G a3, F_spread_of := F3, a_row_sums := f4, d_row_sums := _, g_row_sums := PySem.W.mg_of X G a4, F_row_sums := F4, a_gap_from := f5, d_gap_from := _, g_gap_from := PySem.W.mg_of X G a5, F_gap_from := F5, a_least_gap := f6, d_least_gap := _, g_least_gap := PySem.W.mg_of X G a6, F_least_gap := F6, a_wall_of := f7, d_wall_of := _, g_wall_of := PySem.W.mg_of X G a7, F_wall_of := F7, a_law_source := f8, d_law_source := _, g_law_source := PySem.W.mg_of X G a8, F_law_source := F8, a_law_pick := f9, d_law_pick := _, g_law_pick := PySem.W.mg_of X G a9, F_law_pick := F9, a_law_same := f10, d_law_same := _, g_law_same := PySem.W.mg_of X G a10, F_law_same := F10, a_law_d_sum_table := f11, d_law_d_sum_table := _, g_law_d_sum_table := PySem.W.mg_of X G a11, F_law_d_sum_table := F11, a_law_d_drawn_table := f12, d_law_d_drawn_table := _, g_law_d_drawn_table := PySem.W.mg_of X G a12, F_law_d_drawn_table := F12, a_law_d_gaps := f13, d_law_d_gaps := _, g_law_d_gaps := PySem.W.mg_of X G a13, F_law_d_gaps := F13, a_law_d_due := f14, d_law_d_due := _, g_law_d_due := PySem.W.mg_of X G a14, F_law_d_due := F14, a_law := fa, d_law := _, g_law := PySem.W.mg_of X G a15, F_law := F15, z_abs := PySem.W.mg_none_of X G z_abs, z_bool := PySem.W.mg_none_of X G z_bool, z_enumerate := PySem.W.mg_none_of X G z_enumerate, z_int := PySem.W.mg_none_of X G z_int, z_isinstance := PySem.W.mg_none_of X G z_isinstance, z_len := PySem.W.mg_none_of X G z_len, z_list := PySem.W.mg_none_of X G z_list, z_max := PySem.W.mg_none_of X G z_max, z_min := PySem.W.mg_none_of X G z_min, z_range := PySem.W.mg_none_of X G z_range, z_str := PySem.W.mg_none_of X G z_str, z_tuple := PySem.W.mg_none_of X G z_tuple }
  exact ⟨T.d_law, fun s v => .of_eq rfl, fun base _ _ => (ok_law T).imp (law_imp hl)⟩
end K14


set_option Elab.async false
set_option linter.all false
set_option maxRecDepth 100000
set_option maxHeartbeats 4000000
open PySem PySem.W PyProof.Rows
set_option maxRecDepth 100000 in
set_option maxHeartbeats 0 in
theorem PySem.Challenge.cw_nofarther_k14_walls_and_gaps_by_all_four_holds : PySem.Challenge.rw_nofarther_k14_walls_and_gaps_by_all_four.Holds := by
  w_on; o_law; k_head; (case hw => w_witness2)
  k_fill
  refine L2.walk_of (l := PySem.Challenge.rw_nofarther_k14_walls_and_gaps_by_all_four) (n := 63) (k := 10) (x := "script") (CX := fun w => L2.CX PySem.Challenge.rw_nofarther_k14_walls_and_gaps_by_all_four.prog w) (sp := fun w => DP.spLaw _) rfl (by decide) rfl ⟨rfl, by decide, by decide⟩ (fun w h Y => PySem.W.kIn_of Y) ?F (fun _ _ a ns hl _ hS => ⟨a, ns, rfl, hS, hl, fun _ => rfl⟩) (fun _ _ _ _ _ h => DP.cx_end h)
  case F =>
    intro w mg fa h KX G hmg
    refine' K14.all_mk KX G hmg ?a1 ?l1 ?c1 ?k1 ?a2 ?l2 ?c2 ?k2 ?a3 ?l3 ?c3 ?k3 ?a4 ?l4 ?c4 ?k4 ?a5 ?l5 ?c5 ?k5 ?a6 ?l6 ?c6 ?k6 ?a7 ?l7 ?c7 ?k7 ?a8 ?l8 ?c8 ?k8 ?a9 ?l9 ?c9 ?k9 ?a10 ?l10 ?c10 ?k10 ?a11 ?l11 ?c11 ?k11 ?a12 ?l12 ?c12 ?k12 ?a13 ?l13 ?c13 ?k13 ?a14 ?l14 ?c14 ?k14 ?a15 ?l15 ?c15 ?k15 ?z_abs ?z_bool ?z_enumerate ?z_int ?z_isinstance ?z_len ?z_list ?z_max ?z_min ?z_range ?z_str ?z_tuple K14.law_true
    (case a1 => k_is)
    (case l1 => k_is)
    (case c1 => k_is)
    (case k1 => k_is)
    (case a2 => k_is)
    (case l2 => k_is)
    (case c2 => k_is)
    (case k2 => k_is)
    (case a3 => k_is)
    (case l3 => k_is)
    (case c3 => k_is)
    (case k3 => k_is)
    (case a4 => k_is)
    (case l4 => k_is)
    (case c4 => k_is)
    (case k4 => k_is)
    (case a5 => k_is)
    (case l5 => k_is)
    (case c5 => k_is)
    (case k5 => k_is)
    (case a6 => k_is)
    (case l6 => k_is)
    (case c6 => k_is)
    (case k6 => k_is)
    (case a7 => k_is)
    (case l7 => k_is)
    (case c7 => k_is)
    (case k7 => k_is)
    (case a8 => k_is)
    (case l8 => k_is)
    (case c8 => k_is)
    (case k8 => k_is)
    (case a9 => k_is)
    (case l9 => k_is)
    (case c9 => k_is)
    (case k9 => k_is)
    (case a10 => k_is)
    (case l10 => k_is)
    (case c10 => k_is)
    (case k10 => k_is)
    (case a11 => k_is)
    (case l11 => k_is)
    (case c11 => k_is)
    (case k11 => k_is)
    (case a12 => k_is)
    (case l12 => k_is)
    (case c12 => k_is)
    (case k12 => k_is)
    (case a13 => k_is)
    (case l13 => k_is)
    (case c13 => k_is)
    (case k13 => k_is)
    (case a14 => k_is)
    (case l14 => k_is)
    (case c14 => k_is)
    (case k14 => k_is)
    (case a15 => k_is)
    (case l15 => k_is)
    (case c15 => k_is)
    (case k15 => k_is)
    (case z_abs => k_is)
    (case z_bool => k_is)
    (case z_enumerate => k_is)
    (case z_int => k_is)
    (case z_isinstance => k_is)
    (case z_len => k_is)
    (case z_list => k_is)
    (case z_max => k_is)
    (case z_min => k_is)
    (case z_range => k_is)
    (case z_str => k_is)
    (case z_tuple => k_is)

