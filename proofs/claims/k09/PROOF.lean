import PyProof.Rows.All
import Wide.All
import OpenK.AllK
import Wide.FinOn
import HandS.ForMost
import HandS.ForExc
import HandS.Wide
import HandS.TupAny
import HandS.CallSlots
import HandS.IsInst
import HandS.ExcOwn
import HandS.WordsExc
import HandS.SortInts
import HandS.Comp
import HandS.DictComp
import HandS.SetFor
import HandS.ExcIs
import HandS.RaiseMore
import KE.KExcIs
import HandS.Style
import HandS.NoneIn
import KE.KTupSum
import PyProof.ReprBulk
import PyProof.FitsInt
import HandS.Iter
import PySem.Challenge.RW_scooprow_k09_holders_exchanged
import HandS.ForSpec
set_option Elab.async false
set_option linter.all false
set_option maxRecDepth 100000
set_option maxHeartbeats 2000000
/-! DLa: values as trees D, what stands for them in a heap (Rp), what a frame's slots stand for (RE). -/
namespace DL
open PySem L2

/-- a value as a tree. o = true: owned (one holder, may be changed); false: frozen -/
inductive D where
  | un
  | sl (i : Nat)
  | non
  | bl (b : Bool)
  | int (i : Int)
  | str (x : Str)
  | lst (o : Bool) (xs : List D)
  | tup (xs : List D)
  | dct (o : Bool) (ks : List Key) (xs : List D)
  | obj (o : Bool) (c : Str) (ns : List Str) (xs : List D)
  | exc (c : Str) (ns : List Str) (xs : List D)
  | scr (ns : List Int)

/-- an exception that was caught (or made): its class, its own dict -/
def excHO (a : Addr) (cls : Value) (dx : Option Addr) : HO := .ext fun h => ∃ oe vs, h.get? a = some oe ∧ Zc cls dx oe ∧ oe.data = .fields vs

mutual
/-- v stands for the tree: F holds what is frozen, S are the addresses that it owns -/
def Rp (K : PySem.W.Frag) (mg : Str → Option Value) (F H : Hp) : D → V → List Addr → Prop
  | .un, _, _ => False
  | .sl _, _, _ => False
  | .non, v, S => v = .non ∧ S = []
  | .bl b, v, S => v = .bl b ∧ S = []
  | .int i, v, S => v = .int i ∧ S = []
  | .str x, v, S => v = .str x ∧ S = []
  | .lst o xs, v, S => ∃ a vs S', v = .ref a ∧ RpL K mg F H xs vs S' ∧ if o = true then H a = some (.lst vs) ∧ S = a :: S' else F a = some (.lst vs) ∧ S' = [] ∧ S = []
  | .tup xs, v, S => ∃ a vs, v = .ref a ∧ RpL K mg F H xs vs S ∧ SqT K F a vs
  | .dct o ks xs, v, S => ∃ a vs S', v = .ref a ∧ ks.length = xs.length ∧ RpL K mg F H xs vs S' ∧ if o = true then H a = some (.dK (ks.zip vs)) ∧ S = a :: S' else Rd F a (.dK (ks.zip vs)) ∧ S' = [] ∧ S = []
  | .obj o c ns xs, v, S => ∃ a C dx vs S', v = .ref a ∧ mg c = some (.ref C) ∧ ns.length = xs.length ∧ RpL K mg F H xs vs S' ∧ if o = true then H a = some (.ins C dx (ns.zip vs)) ∧ S = a :: S' else F a = some (.ins C dx (ns.zip vs)) ∧ S' = [] ∧ S = []
  | .exc c ns xs, v, S => S = [] ∧ ∃ a C dx, v = .ref a ∧ mg c = some (.ref C) ∧ F a = some (excHO a (.ref C) dx) ∧ ((ns = [] ∧ xs = [] ∧ dx = none) ∨ ∃ d vs, dx = some d ∧ F d = some (.xd (ns.zip vs)) ∧ ns.length = xs.length ∧ RpL K mg F H xs vs [])
  | .scr ns, v, S => S = [] ∧ ∃ a, v = .ref a ∧ SqL K F a (ns.map V.int)
def RpL (K : PySem.W.Frag) (mg : Str → Option Value) (F H : Hp) : List D → List V → List Addr → Prop
  | [], vs, S => vs = [] ∧ S = []
  | d :: ds, vs, S => ∃ v r S1 S2, vs = v :: r ∧ S = S1 ++ S2 ∧ Rp K mg F H d v S1 ∧ RpL K mg F H ds r S2
end

/-- what an extension is: all that stood stands -/
def Ex (H H' : Hp) : Prop := ∀ a o, H a = some o → H' a = some o
theorem Ex.refl (H : Hp) : Ex H H := fun _ _ h => h
theorem Ex.trans {H H1 H2 : Hp} (a : Ex H H1) (b : Ex H1 H2) : Ex H H2 := fun x o h => b x o (a x o h)
theorem Ex.new {H : Hp} {p : Addr} {o : HO} (h : H p = none) : Ex H (upd H p o) := fun a u e => by
  rw [upd_ne (ne_of_none e h)]
  exact e
theorem Ex.none {H H' : Hp} (e : Ex H H') {p : Addr} (h : H' p = none) : H p = none := by
  cases q : H p with
  | none => rfl
  | some o => rw [e p o q] at h; cases h
theorem Ex.rd {H H' : Hp} {a : Addr} {u : HO} (e : Ex H H') (h : Rd H a u) : Rd H' a u := by
  rcases h with h | ⟨o, h⟩
  · exact Or.inl (e a _ h)
  · exact Or.inr ⟨o, e a _ h⟩
theorem Ex.sqL {K : PySem.W.Frag} {H H' : Hp} {a : Addr} {xs : List V} (e : Ex H H') (h : SqL K H a xs) : SqL K H' a xs := by
  rcases h with h | h
  · exact Or.inl (e.rd h)
  · exact Or.inr h
theorem Ex.sqT {K : PySem.W.Frag} {H H' : Hp} {a : Addr} {xs : List V} (e : Ex H H') (h : SqT K H a xs) : SqT K H' a xs := by
  rcases h with h | h
  · exact Or.inl (e.rd h)
  · exact Or.inr h

section
variable {K : PySem.W.Frag} {mg : Str → Option Value} {F F' H H' : Hp}

theorem RpL.len : ∀ {ds : List D} {vs : List V} {S : List Addr}, RpL K mg F H ds vs S → ds.length = vs.length
  | [], _, _, h => by
    unfold RpL at h
    rw [h.1]; rfl
  | d :: ds, _, _, h => by
    unfold RpL at h
    obtain ⟨v, r, S1, S2, rfl, rfl, _, h2⟩ := h
    rw [List.length_cons, List.length_cons, RpL.len h2]

mutual
/-- the frozen heap grows, what is owned stays -/
theorem Rp.stay : ∀ {d : D} {v : V} {S : List Addr}, Ex F F' → Rp K mg F H d v S → (∀ a ∈ S, H' a = H a) → Rp K mg F' H' d v S
  | .un, _, _, _, h, _ => by unfold Rp at h; exact h.elim
  | .sl _, _, _, _, h, _ => by unfold Rp at h; exact h.elim
  | .exc c ns xs, _, _, e, h, k => by
    unfold Rp at h ⊢
    obtain ⟨h0, a, C, dx, rfl, hc, hf, hd⟩ := h
    refine ⟨h0, a, C, dx, rfl, hc, e _ _ hf, ?_⟩
    rcases hd with hd | ⟨d, vs, rfl, hx, hl, hr⟩
    · exact .inl hd
    · exact .inr ⟨d, vs, rfl, e _ _ hx, hl, RpL.stay e hr fun b hb => absurd hb List.not_mem_nil⟩
  | .scr ns, _, _, e, h, _ => by
    unfold Rp at h ⊢
    obtain ⟨h0, a, rfl, hs⟩ := h
    exact ⟨h0, a, rfl, e.sqL hs⟩
  | .non, _, _, _, h, _ => by unfold Rp at h ⊢; exact h
  | .bl _, _, _, _, h, _ => by unfold Rp at h ⊢; exact h
  | .int _, _, _, _, h, _ => by unfold Rp at h ⊢; exact h
  | .str _, _, _, _, h, _ => by unfold Rp at h ⊢; exact h
  | .lst o xs, v, S, e, h, k => by
    unfold Rp at h ⊢
    obtain ⟨a, vs, S', rfl, hl, ho⟩ := h
    cases o with
    | true =>
      rw [if_pos rfl] at ho
      obtain ⟨ha, rfl⟩ := ho
      exact ⟨a, vs, S', rfl, RpL.stay e hl fun b hb => k b (List.mem_cons_of_mem _ hb), by rw [if_pos rfl]; exact ⟨(k a List.mem_cons_self).trans ha, rfl⟩⟩
    | false =>
      rw [if_neg Bool.false_ne_true] at ho
      obtain ⟨ha, rfl, rfl⟩ := ho
      exact ⟨a, vs, [], rfl, RpL.stay e hl fun b hb => absurd hb List.not_mem_nil, by rw [if_neg Bool.false_ne_true]; exact ⟨e _ _ ha, rfl, rfl⟩⟩
  | .tup xs, v, S, e, h, k => by
    unfold Rp at h ⊢
    obtain ⟨a, vs, rfl, hl, ho⟩ := h
    exact ⟨a, vs, rfl, RpL.stay e hl k, e.sqT ho⟩
  | .dct o ks xs, v, S, e, h, k => by
    unfold Rp at h ⊢
    obtain ⟨a, vs, S', rfl, hk, hl, ho⟩ := h
    cases o with
    | true =>
      rw [if_pos rfl] at ho
      obtain ⟨ha, rfl⟩ := ho
      exact ⟨a, vs, S', rfl, hk, RpL.stay e hl fun b hb => k b (List.mem_cons_of_mem _ hb), by rw [if_pos rfl]; exact ⟨(k a List.mem_cons_self).trans ha, rfl⟩⟩
    | false =>
      rw [if_neg Bool.false_ne_true] at ho
      obtain ⟨ha, rfl, rfl⟩ := ho
      exact ⟨a, vs, [], rfl, hk, RpL.stay e hl fun b hb => absurd hb List.not_mem_nil, by rw [if_neg Bool.false_ne_true]; exact ⟨e.rd ha, rfl, rfl⟩⟩
  | .obj o c ns xs, v, S, e, h, k => by
    unfold Rp at h ⊢
    obtain ⟨a, C, dx, vs, S', rfl, hc, hk, hl, ho⟩ := h
    cases o with
    | true =>
      rw [if_pos rfl] at ho
      obtain ⟨ha, rfl⟩ := ho
      exact ⟨a, C, dx, vs, S', rfl, hc, hk, RpL.stay e hl fun b hb => k b (List.mem_cons_of_mem _ hb), by rw [if_pos rfl]; exact ⟨(k a List.mem_cons_self).trans ha, rfl⟩⟩
    | false =>
      rw [if_neg Bool.false_ne_true] at ho
      obtain ⟨ha, rfl, rfl⟩ := ho
      exact ⟨a, C, dx, vs, [], rfl, hc, hk, RpL.stay e hl fun b hb => absurd hb List.not_mem_nil, by rw [if_neg Bool.false_ne_true]; exact ⟨e _ _ ha, rfl, rfl⟩⟩
theorem RpL.stay : ∀ {ds : List D} {vs : List V} {S : List Addr}, Ex F F' → RpL K mg F H ds vs S → (∀ a ∈ S, H' a = H a) → RpL K mg F' H' ds vs S
  | [], _, _, _, h, _ => by unfold RpL at h ⊢; exact h
  | d :: ds, _, _, e, h, k => by
    unfold RpL at h ⊢
    obtain ⟨v, r, S1, S2, rfl, rfl, h1, h2⟩ := h
    exact ⟨v, r, S1, S2, rfl, rfl, Rp.stay e h1 fun a ha => k a (List.mem_append_left _ ha), RpL.stay e h2 fun a ha => k a (List.mem_append_right _ ha)⟩
end

mutual
/-- what is owned stands -/
theorem Rp.there : ∀ {d : D} {v : V} {S : List Addr}, Rp K mg F H d v S → ∀ a ∈ S, H a ≠ none
  | .un, _, _, h => by unfold Rp at h; exact h.elim
  | .sl _, _, _, h => by unfold Rp at h; exact h.elim
  | .exc _ _ _, _, _, h => by unfold Rp at h; rw [h.1]; exact fun a ha => absurd ha List.not_mem_nil
  | .non, _, _, h => by unfold Rp at h; rw [h.2]; exact fun a ha => absurd ha List.not_mem_nil
  | .scr _, _, _, h => by unfold Rp at h; rw [h.1]; exact fun a ha => absurd ha List.not_mem_nil
  | .bl _, _, _, h => by unfold Rp at h; rw [h.2]; exact fun a ha => absurd ha List.not_mem_nil
  | .int _, _, _, h => by unfold Rp at h; rw [h.2]; exact fun a ha => absurd ha List.not_mem_nil
  | .str _, _, _, h => by unfold Rp at h; rw [h.2]; exact fun a ha => absurd ha List.not_mem_nil
  | .lst o xs, v, S, h => by
    unfold Rp at h
    obtain ⟨a, vs, S', rfl, hl, ho⟩ := h
    cases o with
    | true =>
      rw [if_pos rfl] at ho
      obtain ⟨ha, rfl⟩ := ho
      intro b hb
      rcases List.mem_cons.mp hb with rfl | hb
      · rw [ha]; exact fun q => nomatch q
      · exact RpL.there hl b hb
    | false =>
      rw [if_neg Bool.false_ne_true] at ho
      rw [ho.2.2]; exact fun a ha => absurd ha List.not_mem_nil
  | .tup xs, v, S, h => by
    unfold Rp at h
    obtain ⟨a, vs, rfl, hl, ho⟩ := h
    exact RpL.there hl
  | .dct o ks xs, v, S, h => by
    unfold Rp at h
    obtain ⟨a, vs, S', rfl, hk, hl, ho⟩ := h
    cases o with
    | true =>
      rw [if_pos rfl] at ho
      obtain ⟨ha, rfl⟩ := ho
      intro b hb
      rcases List.mem_cons.mp hb with rfl | hb
      · rw [ha]; exact fun q => nomatch q
      · exact RpL.there hl b hb
    | false =>
      rw [if_neg Bool.false_ne_true] at ho
      rw [ho.2.2]; exact fun a ha => absurd ha List.not_mem_nil
  | .obj o c ns xs, v, S, h => by
    unfold Rp at h
    obtain ⟨a, C, dx, vs, S', rfl, hc, hk, hl, ho⟩ := h
    cases o with
    | true =>
      rw [if_pos rfl] at ho
      obtain ⟨ha, rfl⟩ := ho
      intro b hb
      rcases List.mem_cons.mp hb with rfl | hb
      · rw [ha]; exact fun q => nomatch q
      · exact RpL.there hl b hb
    | false =>
      rw [if_neg Bool.false_ne_true] at ho
      rw [ho.2.2]; exact fun a ha => absurd ha List.not_mem_nil
theorem RpL.there : ∀ {ds : List D} {vs : List V} {S : List Addr}, RpL K mg F H ds vs S → ∀ a ∈ S, H a ≠ none
  | [], _, _, h => by unfold RpL at h; rw [h.2]; exact fun a ha => absurd ha List.not_mem_nil
  | d :: ds, _, _, h => by
    unfold RpL at h
    obtain ⟨v, r, S1, S2, rfl, rfl, h1, h2⟩ := h
    intro a ha
    rcases List.mem_append.mp ha with ha | ha
    · exact Rp.there h1 a ha
    · exact RpL.there h2 a ha
end

mutual
/-- nothing owned within -/
def froz : D → Bool
  | .un => false
  | .sl _ => false
  | .non => true
  | .bl _ => true
  | .int _ => true
  | .str _ => true
  | .lst o xs => !o && frozL xs
  | .tup xs => frozL xs
  | .dct o _ xs => !o && frozL xs
  | .obj o _ _ xs => !o && frozL xs
  | .exc _ _ _ => true
  | .scr _ => true
def frozL : List D → Bool
  | [] => true
  | d :: ds => froz d && frozL ds
end

mutual
theorem Rp.froz : ∀ {d : D} {v : V} {S : List Addr}, Rp K mg F H d v S → DL.froz d = true → S = []
  | .un, _, _, h, _ => by unfold Rp at h; exact h.elim
  | .sl _, _, _, h, _ => by unfold Rp at h; exact h.elim
  | .exc _ _ _, _, _, h, _ => by unfold Rp at h; exact h.1
  | .non, _, _, h, _ => by unfold Rp at h; exact h.2
  | .scr _, _, _, h, _ => by unfold Rp at h; exact h.1
  | .bl _, _, _, h, _ => by unfold Rp at h; exact h.2
  | .int _, _, _, h, _ => by unfold Rp at h; exact h.2
  | .str _, _, _, h, _ => by unfold Rp at h; exact h.2
  | .lst o xs, v, S, h, z => by
    unfold Rp at h
    unfold DL.froz at z
    obtain ⟨a, vs, S', rfl, hl, ho⟩ := h
    cases o with
    | true => cases z
    | false =>
      rw [if_neg Bool.false_ne_true] at ho
      exact ho.2.2
  | .tup xs, v, S, h, z => by
    unfold Rp at h
    unfold DL.froz at z
    obtain ⟨a, vs, rfl, hl, ho⟩ := h
    exact RpL.froz hl z
  | .dct o ks xs, v, S, h, z => by
    unfold Rp at h
    unfold DL.froz at z
    obtain ⟨a, vs, S', rfl, hk, hl, ho⟩ := h
    cases o with
    | true => cases z
    | false =>
      rw [if_neg Bool.false_ne_true] at ho
      exact ho.2.2
  | .obj o c ns xs, v, S, h, z => by
    unfold Rp at h
    unfold DL.froz at z
    obtain ⟨a, C, dx, vs, S', rfl, hc, hk, hl, ho⟩ := h
    cases o with
    | true => cases z
    | false =>
      rw [if_neg Bool.false_ne_true] at ho
      exact ho.2.2
theorem RpL.froz : ∀ {ds : List D} {vs : List V} {S : List Addr}, RpL K mg F H ds vs S → frozL ds = true → S = []
  | [], _, _, h, _ => by unfold RpL at h; exact h.2
  | d :: ds, _, _, h, z => by
    unfold RpL at h
    unfold frozL at z
    obtain ⟨v, r, S1, S2, rfl, rfl, h1, h2⟩ := h
    rw [Bool.and_eq_true] at z
    rw [Rp.froz h1 z.1, RpL.froz h2 z.2]
    rfl
end

mutual
/-- freeze -/
def fz : D → D
  | .lst _ xs => .lst false (fzL xs)
  | .tup xs => .tup (fzL xs)
  | .dct _ ks xs => .dct false ks (fzL xs)
  | .obj _ c ns xs => .obj false c ns (fzL xs)
  | d => d
def fzL : List D → List D
  | [] => []
  | d :: ds => fz d :: fzL ds
end
theorem fzL_map : ∀ ds : List D, fzL ds = ds.map fz
  | [] => rfl
  | d :: ds => by rw [fzL, List.map_cons, fzL_map ds]
theorem fzL_len (ds : List D) : (fzL ds).length = ds.length := by rw [fzL_map, List.length_map]
end
end DL
set_option Elab.async false
set_option linter.all false
set_option maxRecDepth 100000
set_option maxHeartbeats 2000000
/-! DLb: freezing; the state of a body (RE) and its steps. -/
namespace DL
open PySem L2

section
variable {K : PySem.W.Frag} {mg : Str → Option Value} {F F' H H' : Hp}

/-- what is owned at S is frozen as it stands -/
def adopt (F H : Hp) (S : List Addr) : Hp := fun a => if a ∈ S then H a else F a
theorem adopt_in {S : List Addr} {a : Addr} (h : a ∈ S) : adopt F H S a = H a := if_pos h
theorem adopt_out {S : List Addr} {a : Addr} (h : a ∉ S) : adopt F H S a = F a := if_neg h
theorem adopt_nil : adopt F H [] = F := by
  funext a
  exact adopt_out List.not_mem_nil
theorem adopt_ex {S : List Addr} (e : Ex F H) : Ex (adopt F H S) H := fun a o h => by
  by_cases ha : a ∈ S
  · rw [adopt_in ha] at h; exact h
  · rw [adopt_out ha] at h; exact e a o h
theorem adopt_sub {S S' : List Addr} (e : Ex F H) (hs : ∀ a ∈ S, a ∈ S') : Ex (adopt F H S) (adopt F H S') := fun a o h => by
  by_cases ha' : a ∈ S'
  · rw [adopt_in ha']; exact adopt_ex e a o h
  · rw [adopt_out ha']
    rw [adopt_out fun z => ha' (hs a z)] at h
    exact h
theorem ex_adopt {S : List Addr} (e : Ex F H) : Ex F (adopt F H S) := fun a o h => by
  by_cases ha : a ∈ S
  · rw [adopt_in ha]; exact e a o h
  · rw [adopt_out ha]; exact h

mutual
theorem Rp.fz : ∀ {d : D} {v : V} {S : List Addr}, Ex F H → Rp K mg F H d v S → Rp K mg (adopt F H S) H (DL.fz d) v []
  | .un, _, _, _, h => by unfold Rp at h; exact h.elim
  | .sl _, _, _, _, h => by unfold Rp at h; exact h.elim
  | .exc c ns xs, v, S, e, h => by
    have h' : Rp K mg (adopt F H S) H (.exc c ns xs) v S := Rp.stay (ex_adopt e) h fun _ _ => rfl
    have e0 : S = [] := by unfold Rp at h; exact h.1
    unfold DL.fz
    rw [e0] at h' ⊢
    exact h'
  | .non, _, _, _, h => by unfold DL.fz; unfold Rp at h ⊢; exact ⟨h.1, rfl⟩
  | .scr ns, _, _, e, h => by
    unfold DL.fz
    unfold Rp at h ⊢
    obtain ⟨h0, a, rfl, hs⟩ := h
    exact ⟨rfl, a, rfl, (ex_adopt e).sqL hs⟩
  | .bl _, _, _, _, h => by unfold DL.fz; unfold Rp at h ⊢; exact ⟨h.1, rfl⟩
  | .int _, _, _, _, h => by unfold DL.fz; unfold Rp at h ⊢; exact ⟨h.1, rfl⟩
  | .str _, _, _, _, h => by unfold DL.fz; unfold Rp at h ⊢; exact ⟨h.1, rfl⟩
  | .lst o xs, v, S, e, h => by
    unfold DL.fz
    unfold Rp at h ⊢
    obtain ⟨a, vs, S', rfl, hl, ho⟩ := h
    cases o with
    | true =>
      rw [if_pos rfl] at ho
      obtain ⟨ha, rfl⟩ := ho
      refine ⟨a, vs, [], rfl, (RpL.fz e hl).stay (adopt_sub e fun b hb => List.mem_cons_of_mem _ hb) fun b hb => rfl, ?_⟩
      rw [if_neg Bool.false_ne_true]
      exact ⟨(adopt_in List.mem_cons_self).trans ha, rfl, rfl⟩
    | false =>
      rw [if_neg Bool.false_ne_true] at ho
      obtain ⟨ha, rfl, rfl⟩ := ho
      refine ⟨a, vs, [], rfl, RpL.fz e hl, ?_⟩
      rw [if_neg Bool.false_ne_true]
      exact ⟨ex_adopt e _ _ ha, rfl, rfl⟩
  | .tup xs, v, S, e, h => by
    unfold DL.fz
    unfold Rp at h ⊢
    obtain ⟨a, vs, rfl, hl, ho⟩ := h
    exact ⟨a, vs, rfl, RpL.fz e hl, (ex_adopt e).sqT ho⟩
  | .dct o ks xs, v, S, e, h => by
    unfold DL.fz
    unfold Rp at h ⊢
    obtain ⟨a, vs, S', rfl, hk, hl, ho⟩ := h
    cases o with
    | true =>
      rw [if_pos rfl] at ho
      obtain ⟨ha, rfl⟩ := ho
      refine ⟨a, vs, [], rfl, hk.trans (fzL_len xs).symm, (RpL.fz e hl).stay (adopt_sub e fun b hb => List.mem_cons_of_mem _ hb) fun b hb => rfl, ?_⟩
      rw [if_neg Bool.false_ne_true]
      exact ⟨Or.inl ((adopt_in List.mem_cons_self).trans ha), rfl, rfl⟩
    | false =>
      rw [if_neg Bool.false_ne_true] at ho
      obtain ⟨ha, rfl, rfl⟩ := ho
      refine ⟨a, vs, [], rfl, hk.trans (fzL_len xs).symm, RpL.fz e hl, ?_⟩
      rw [if_neg Bool.false_ne_true]
      exact ⟨(ex_adopt e).rd ha, rfl, rfl⟩
  | .obj o c ns xs, v, S, e, h => by
    unfold DL.fz
    unfold Rp at h ⊢
    obtain ⟨a, C, dx, vs, S', rfl, hc, hk, hl, ho⟩ := h
    cases o with
    | true =>
      rw [if_pos rfl] at ho
      obtain ⟨ha, rfl⟩ := ho
      refine ⟨a, C, dx, vs, [], rfl, hc, hk.trans (fzL_len xs).symm, (RpL.fz e hl).stay (adopt_sub e fun b hb => List.mem_cons_of_mem _ hb) fun b hb => rfl, ?_⟩
      rw [if_neg Bool.false_ne_true]
      exact ⟨(adopt_in List.mem_cons_self).trans ha, rfl, rfl⟩
    | false =>
      rw [if_neg Bool.false_ne_true] at ho
      obtain ⟨ha, rfl, rfl⟩ := ho
      refine ⟨a, C, dx, vs, [], rfl, hc, hk.trans (fzL_len xs).symm, RpL.fz e hl, ?_⟩
      rw [if_neg Bool.false_ne_true]
      exact ⟨ex_adopt e _ _ ha, rfl, rfl⟩
theorem RpL.fz : ∀ {ds : List D} {vs : List V} {S : List Addr}, Ex F H → RpL K mg F H ds vs S → RpL K mg (adopt F H S) H (fzL ds) vs []
  | [], _, _, _, h => by unfold fzL; unfold RpL at h ⊢; exact ⟨h.1, rfl⟩
  | d :: ds, _, _, e, h => by
    unfold fzL
    unfold RpL at h ⊢
    obtain ⟨v, r, S1, S2, rfl, rfl, h1, h2⟩ := h
    exact ⟨v, r, [], [], rfl, rfl, (Rp.fz e h1).stay (adopt_sub e fun b hb => List.mem_append_left _ hb) fun b hb => rfl, (RpL.fz e h2).stay (adopt_sub e fun b hb => List.mem_append_right _ hb) fun b hb => rfl⟩
end

mutual
theorem froz_fz : ∀ d : D, froz d = true → fz d = d
  | .un, h => rfl
  | .sl _, h => rfl
  | .non, h => rfl
  | .bl _, h => rfl
  | .int _, h => rfl
  | .str _, h => rfl
  | .exc _ _ _, h => rfl
  | .scr _, h => rfl
  | .lst o xs, h => by
    unfold froz at h
    rw [Bool.and_eq_true] at h
    unfold fz
    rw [frozL_fz xs h.2]
    cases o with
    | true => exact absurd h.1 (by decide)
    | false => rfl
  | .tup xs, h => by
    unfold froz at h
    unfold fz
    rw [frozL_fz xs h]
  | .dct o ks xs, h => by
    unfold froz at h
    rw [Bool.and_eq_true] at h
    unfold fz
    rw [frozL_fz xs h.2]
    cases o with
    | true => exact absurd h.1 (by decide)
    | false => rfl
  | .obj o c ns xs, h => by
    unfold froz at h
    rw [Bool.and_eq_true] at h
    unfold fz
    rw [frozL_fz xs h.2]
    cases o with
    | true => exact absurd h.1 (by decide)
    | false => rfl
theorem frozL_fz : ∀ ds : List D, frozL ds = true → fzL ds = ds
  | [], _ => rfl
  | d :: ds, h => by
    unfold frozL at h
    rw [Bool.and_eq_true] at h
    unfold fzL
    rw [froz_fz d h.1, frozL_fz ds h.2]
end
end

/-! ### the state of a body -/
/-- who owns: a slot, a temporary -/
inductive Own where
  | s (i : Nat)
  | t (k : Nat)
  deriving DecidableEq

/-- what a body leaves as it is: the heap outside, the slots of parameters that it never stores -/
structure Bd where
  out : Addr → Prop
  H0 : Hp
  F0 : Hp
  pins : List (Nat × V)

/-- a temporary: an alias of a slot, or a tree of its own -/
def Tm (K : PySem.W.Frag) (mg : Str → Option Value) (F H : Hp) (σ : St) : D → V → List Addr → Prop
  | .sl i, v, S => σ[i]? = some (some v) ∧ S = []
  | d, v, S => Rp K mg F H d v S

structure REw (K : PySem.W.Frag) (mg : Str → Option Value) (B : Bd) (σ : St) (H F : Hp) (env ts : List D) (vs : List V) (ow : Own → List Addr) : Prop where
  len : env.length = σ.length
  tlen : ts.length = vs.length
  slot : ∀ (i : Nat) d, env[i]? = some d → d ≠ .un → ∃ v, σ[i]? = some (some v) ∧ Rp K mg F H d v (ow (.s i))
  sun : ∀ i : Nat, (env[i]? = none ∨ env[i]? = some .un) → ow (.s i) = []
  temp : ∀ (k : Nat) d v, ts[k]? = some d → vs[k]? = some v → Tm K mg F H σ d v (ow (.t k))
  tun : ∀ k : Nat, ts.length ≤ k → ow (.t k) = []
  uniq : ∀ o o' a, a ∈ ow o → a ∈ ow o' → o = o'
  nod : ∀ o, (ow o).Nodup
  fno : ∀ o a, a ∈ ow o → F a = none
  ex : Ex F H
  fr : ∀ a, B.out a → H a = B.H0 a ∧ F a = B.F0 a ∧ B.H0 a ≠ none ∧ ∀ o, a ∉ ow o
  pin : ∀ p ∈ B.pins, σ[p.1]? = some (some p.2)
def RE (K : PySem.W.Frag) (mg : Str → Option Value) (B : Bd) (σ : St) (H F : Hp) (env ts : List D) (vs : List V) : Prop := ∃ ow, REw K mg B σ H F env ts vs ow

def isUn : D → Bool
  | .un => true
  | _ => false
/-- what an operand stands for now -/
def rs (env : List D) : D → D
  | .sl i => env.getD i .un
  | d => d

section
variable {K : PySem.W.Frag} {mg : Str → Option Value} {B : Bd} {σ : St} {F F' H H' : Hp} {env ts us : List D} {vs ws : List V} {d : D} {v : V} {ow : Own → List Addr}

theorem Tm.of (h : Rp K mg F H d v S) : Tm K mg F H σ d v S := by
  cases d <;> first | exact h | (unfold Rp at h; exact h.elim)
theorem Tm.rp (h : Tm K mg F H σ d v S) (n : ∀ i, d ≠ .sl i) : Rp K mg F H d v S := by
  cases d with
  | sl i => exact absurd rfl (n i)
  | _ => exact h
theorem Tm.stay (e : Ex F F') (h : Tm K mg F H σ d v S) (k : ∀ a ∈ S, H' a = H a) : Tm K mg F' H' σ d v S := by
  cases d with
  | sl i => exact h
  | _ => exact Tm.of (Rp.stay e (Tm.rp h fun i => by intro z; cases z) k)
theorem Tm.there (h : Tm K mg F H σ d v S) : ∀ a ∈ S, H a ≠ none := by
  cases d with
  | sl i =>
    intro a ha
    rw [h.2] at ha
    exact absurd ha List.not_mem_nil
  | _ => exact Rp.there (Tm.rp h fun i => by intro z; cases z)

theorem REw.there (R : REw K mg B σ H F env ts vs ow) : ∀ o a, a ∈ ow o → H a ≠ none := by
  intro o a ha
  cases o with
  | s i =>
    cases e : env[i]? with
    | none => rw [R.sun i (.inl e)] at ha; exact absurd ha List.not_mem_nil
    | some d =>
      by_cases hd : d = .un
      · rw [R.sun i (.inr (by rw [e, hd]))] at ha; exact absurd ha List.not_mem_nil
      · obtain ⟨v, _, r⟩ := R.slot i d e hd
        exact r.there a ha
  | t k =>
    by_cases hk : k < ts.length
    · have hk' : k < vs.length := by rw [← R.tlen]; exact hk
      exact (R.temp k ts[k] vs[k] (by simp [hk]) (by simp [hk'])).there a ha
    · rw [R.tun k (Nat.le_of_not_lt hk)] at ha; exact absurd ha List.not_mem_nil

/-- the heaps grow: the frozen one by what is new or was its own -/
theorem REw.grow (R : REw K mg B σ H F env ts vs ow) (e : Ex F F') (eh : ∀ o a, a ∈ ow o → H' a = H a) (fn : ∀ o a, a ∈ ow o → F' a = none) (ex' : Ex F' H') (fr : ∀ a, B.out a → H' a = H a ∧ F' a = F a) : REw K mg B σ H' F' env ts vs ow where
  len := R.len
  tlen := R.tlen
  slot := fun i d e1 e2 => by
    obtain ⟨v, h1, h2⟩ := R.slot i d e1 e2
    exact ⟨v, h1, h2.stay e fun a ha => eh _ a ha⟩
  sun := R.sun
  temp := fun k d v e1 e2 => (R.temp k d v e1 e2).stay e fun a ha => eh _ a ha
  tun := R.tun
  uniq := R.uniq
  nod := R.nod
  fno := fn
  ex := ex'
  fr := fun a ha => by
    obtain ⟨h1, h2, h3, h4⟩ := R.fr a ha
    obtain ⟨g1, g2⟩ := fr a ha
    exact ⟨g1.trans h1, g2.trans h2, h3, h4⟩
  pin := R.pin

/-- a new address -/
theorem REw.nout (R : REw K mg B σ H F env ts vs ow) {p : Addr} (h : H p = none) : ¬ B.out p ∧ F p = none ∧ ∀ o, p ∉ ow o := by
  refine ⟨fun z => ?_, R.ex.none h, fun o z => R.there o p z h⟩
  obtain ⟨h1, _, h3, _⟩ := R.fr p z
  rw [h] at h1
  exact h3 h1.symm
/-- a new frozen object -/
theorem REw.newF (R : REw K mg B σ H F env ts vs ow) {p : Addr} {o : HO} (h : H p = none) : REw K mg B σ (upd H p o) (upd F p o) env ts vs ow := by
  obtain ⟨n1, n2, n3⟩ := R.nout h
  refine R.grow (Ex.new n2) (fun o' a ha => upd_ne fun z => n3 o' (by rw [← z]; exact ha)) (fun o' a ha => ?_) (fun a u hu => ?_) fun a ha => ?_
  · rw [upd_ne fun z => n3 o' (by rw [← z]; exact ha)]
    exact R.fno o' a ha
  · by_cases z : a = p
    · subst z; rw [upd_same] at hu ⊢; exact hu
    · rw [upd_ne z] at hu ⊢; exact R.ex a u hu
  · have z : a ≠ p := fun z => n1 (by rw [← z]; exact ha)
    exact ⟨upd_ne z, upd_ne z⟩
/-- a new object that is not frozen -/
theorem REw.newH (R : REw K mg B σ H F env ts vs ow) {p : Addr} {o : HO} (h : H p = none) : REw K mg B σ (upd H p o) F env ts vs ow := by
  obtain ⟨n1, n2, n3⟩ := R.nout h
  refine R.grow (Ex.refl F) (fun o' a ha => upd_ne fun z => n3 o' (by rw [← z]; exact ha)) R.fno (fun a u hu => ?_) fun a ha => ?_
  · rw [upd_ne (ne_of_none hu n2)]; exact R.ex a u hu
  · have z : a ≠ p := fun z => n1 (by rw [← z]; exact ha)
    exact ⟨upd_ne z, rfl⟩

/-- the owners of the temporaries below n -/
def low (ow : Own → List Addr) (n : Nat) : Own → List Addr
  | .s i => ow (.s i)
  | .t k => if k < n then ow (.t k) else []
/-- a temporary at n is given S -/
def give (ow : Own → List Addr) (n : Nat) (S : List Addr) : Own → List Addr
  | .s i => ow (.s i)
  | .t k => if k = n then S else ow (.t k)
theorem mem_low {n : Nat} {o : Own} {a : Addr} (h : a ∈ low ow n o) : a ∈ ow o := by
  cases o with
  | s i => exact h
  | t k =>
    unfold low at h
    dsimp only at h
    split at h
    · exact h
    · exact absurd h List.not_mem_nil

/-- temporaries are dropped -/
theorem REw.drop (R : REw K mg B σ H F env (ts ++ us) (vs ++ ws) ow) (hl : us.length = ws.length) : REw K mg B σ H F env ts vs (low ow ts.length) where
  len := R.len
  tlen := by have := R.tlen; simp only [List.length_append] at this; omega
  slot := R.slot
  sun := R.sun
  temp := fun k d v e1 e2 => by
    have hk : k < ts.length := (List.getElem?_eq_some_iff.mp e1).1
    have q : low ow ts.length (.t k) = ow (.t k) := if_pos hk
    rw [q]
    have hk' : k < vs.length := (List.getElem?_eq_some_iff.mp e2).1
    exact R.temp k d v (by rw [List.getElem?_append_left hk]; exact e1) (by rw [List.getElem?_append_left hk']; exact e2)
  tun := fun k hk => if_neg (Nat.not_lt.mpr hk)
  uniq := fun o o' a h1 h2 => R.uniq o o' a (mem_low h1) (mem_low h2)
  nod := fun o => by
    cases o with
    | s i => exact R.nod _
    | t k =>
      unfold low
      dsimp only
      split
      · exact R.nod _
      · exact List.nodup_nil
  fno := fun o a h => R.fno o a (mem_low h)
  ex := R.ex
  fr := fun a ha => by
    obtain ⟨h1, h2, h3, h4⟩ := R.fr a ha
    exact ⟨h1, h2, h3, fun o z => h4 o (mem_low z)⟩
  pin := R.pin
theorem RE.drop (R : RE K mg B σ H F env (ts ++ us) (vs ++ ws)) (hl : us.length = ws.length) : RE K mg B σ H F env ts vs :=
  let ⟨_, r⟩ := R; ⟨_, r.drop hl⟩

/-- a temporary is pushed: S is owned by nobody else -/
theorem REw.push (R : REw K mg B σ H F env ts vs ow) {S : List Addr} (h : Tm K mg F H σ d v S) (hn : ∀ a ∈ S, (∀ o, a ∉ ow o) ∧ F a = none ∧ ¬ B.out a) (hd : S.Nodup) : REw K mg B σ H F env (ts ++ [d]) (vs ++ [v]) (give ow ts.length S) := by
  have gs : ∀ o a, a ∈ give ow ts.length S o → (o = .t ts.length ∧ a ∈ S) ∨ (o ≠ .t ts.length ∧ a ∈ ow o) := fun o a ha => by
    cases o with
    | s i => exact .inr ⟨fun z => (nomatch z), ha⟩
    | t k =>
      unfold give at ha
      dsimp only at ha
      split at ha
      · rename_i e; subst e; exact .inl ⟨rfl, ha⟩
      · rename_i e; exact .inr ⟨fun z => by (cases z; exact e rfl), ha⟩
  refine ⟨R.len, by simp [R.tlen], R.slot, R.sun, fun k d' v' e1 e2 => ?_, fun k hk => ?_, fun o o' a h1 h2 => ?_, fun o => ?_, fun o a ha => ?_, R.ex, fun a ha => ?_, R.pin⟩
  · by_cases hk : k = ts.length
    · subst hk
      rw [List.getElem?_append_right (Nat.le_refl _), Nat.sub_self] at e1
      rw [R.tlen, List.getElem?_append_right (Nat.le_refl _), Nat.sub_self] at e2
      cases e1
      cases e2
      show Tm K mg F H σ d v (if ts.length = ts.length then S else ow (.t ts.length))
      rw [if_pos rfl]
      exact h
    · have hlt : k < ts.length := by
        have := (List.getElem?_eq_some_iff.mp e1).1
        simp only [List.length_append, List.length_cons, List.length_nil] at this
        omega
      rw [List.getElem?_append_left hlt] at e1
      rw [List.getElem?_append_left (by rw [← R.tlen]; exact hlt)] at e2
      show Tm K mg F H σ d' v' (if k = ts.length then S else ow (.t k))
      rw [if_neg hk]
      exact R.temp k d' v' e1 e2
  · simp only [List.length_append, List.length_cons, List.length_nil] at hk
    show (if k = ts.length then S else ow (.t k)) = []
    rw [if_neg (by omega)]
    exact R.tun k (by omega)
  · rcases gs o a h1 with ⟨rfl, q1⟩ | ⟨n1, q1⟩ <;> rcases gs o' a h2 with ⟨rfl, q2⟩ | ⟨n2, q2⟩
    · rfl
    · exact absurd q2 ((hn a q1).1 o')
    · exact absurd q1 ((hn a q2).1 o)
    · exact R.uniq o o' a q1 q2
  · cases o with
    | s i => exact R.nod _
    | t k =>
      unfold give
      dsimp only
      split
      · exact hd
      · exact R.nod _
  · rcases gs o a ha with ⟨_, q⟩ | ⟨_, q⟩
    · exact (hn a q).2.1
    · exact R.fno o a q
  · obtain ⟨h1, h2, h3, h4⟩ := R.fr a ha
    refine ⟨h1, h2, h3, fun o z => ?_⟩
    rcases gs o a z with ⟨_, q⟩ | ⟨_, q⟩
    · exact (hn a q).2.2 ha
    · exact h4 o q
theorem RE.push0 (R : RE K mg B σ H F env ts vs) (h : Tm K mg F H σ d v []) : RE K mg B σ H F env (ts ++ [d]) (vs ++ [v]) :=
  let ⟨_, r⟩ := R; ⟨_, r.push h (fun a ha => absurd ha List.not_mem_nil) List.nodup_nil⟩
/-- an operand that owns nothing in place of the last ones -/
theorem RE.repl0 (R : RE K mg B σ H F env (ts ++ us) (vs ++ ws)) (hl : us.length = ws.length) (h : Rp K mg F H d v []) : RE K mg B σ H F env (ts ++ [d]) (vs ++ [v]) := (R.drop hl).push0 (Tm.of h)

theorem rs_ne {d : D} (h : ∀ i, d ≠ .sl i) : rs env d = d := by
  cases d with
  | sl i => exact absurd rfl (h i)
  | _ => rfl
/-- what the last operand is -/
theorem REw.read (R : REw K mg B σ H F env ts vs ow) {k : Nat} (h1 : ts[k]? = some d) (h2 : vs[k]? = some v) (hu : rs env d ≠ .un) : ∃ o, Rp K mg F H (rs env d) v (ow o) := by
  have h := R.temp k d v h1 h2
  cases d with
  | sl i =>
    have e : env[i]? = some (rs env (.sl i)) := by
      show env[i]? = some (env.getD i .un)
      rw [List.getD_eq_getElem?_getD]
      cases q : env[i]? with
      | none =>
        exfalso; apply hu
        show env.getD i .un = .un
        rw [List.getD_eq_getElem?_getD, q]; rfl
      | some x => rfl
    obtain ⟨w', e1, r⟩ := R.slot i _ e hu
    have q := h.1
    rw [q] at e1
    cases e1
    exact ⟨_, r⟩
  | _ => exact ⟨.t k, h⟩
theorem RE.last (R : RE K mg B σ H F env (ts ++ [d]) (vs ++ [v])) (hu : rs env d ≠ .un) : ∃ S, Rp K mg F H (rs env d) v S := by
  obtain ⟨ow, r⟩ := R
  have tl := r.tlen
  simp only [List.length_append, List.length_cons, List.length_nil] at tl
  have e2 : (vs ++ [v])[ts.length]? = some v := by
    rw [show ts.length = vs.length by omega]
    simp
  obtain ⟨o, h⟩ := r.read (k := ts.length) (d := d) (v := v) (by simp) e2 hu
  exact ⟨_, h⟩
theorem RE.last2 {d2 : D} {v2 : V} (R : RE K mg B σ H F env (ts ++ [d, d2]) (vs ++ [v, v2])) (hu : rs env d ≠ .un) (hu2 : rs env d2 ≠ .un) : (∃ S, Rp K mg F H (rs env d) v S) ∧ ∃ S, Rp K mg F H (rs env d2) v2 S := by
  obtain ⟨ow, r⟩ := R
  have tl := r.tlen
  simp only [List.length_append, List.length_cons, List.length_nil] at tl
  have hl : ts.length = vs.length := by omega
  obtain ⟨o, h⟩ := r.read (k := ts.length) (d := d) (v := v) (by simp) (by rw [hl]; simp) hu
  obtain ⟨o2, h2⟩ := r.read (k := ts.length + 1) (d := d2) (v := v2) (by simp) (by rw [hl]; simp) hu2
  exact ⟨⟨_, h⟩, _, h2⟩
theorem RE.ex (R : RE K mg B σ H F env ts vs) : Ex F H := let ⟨_, r⟩ := R; r.ex
theorem RE.newF (R : RE K mg B σ H F env ts vs) {p : Addr} {o : HO} (h : H p = none) : RE K mg B σ (upd H p o) (upd F p o) env ts vs := let ⟨_, r⟩ := R; ⟨_, r.newF h⟩
end
end DL
set_option Elab.async false
set_option linter.all false
set_option maxRecDepth 100000
set_option maxHeartbeats 2000000
/-! DLb2: slots forgotten, stored, frozen; temporaries taken, made into one. -/
namespace DL
open PySem L2
section
variable {K : PySem.W.Frag} {mg : Str → Option Value} {B : Bd} {σ : St} {F F' H H' : Hp} {env ts us : List D} {vs ws : List V} {d : D} {v : V} {ow : Own → List Addr}

def offS (ow : Own → List Addr) (i : Nat) (S : List Addr) : Own → List Addr := fun o => if o = .s i then S else ow o
theorem offS_in {i : Nat} {S : List Addr} : offS ow i S (.s i) = S := if_pos rfl
theorem offS_ne {i : Nat} {S : List Addr} {o : Own} (h : o ≠ .s i) : offS ow i S o = ow o := if_neg h

/-- a slot is forgotten -/
theorem REw.unslot (R : REw K mg B σ H F env ts vs ow) (i : Nat) : REw K mg B σ H F (env.set i .un) ts vs (offS ow i []) := by
  have sub : ∀ o a, a ∈ offS ow i [] o → a ∈ ow o := fun o a h => by
    by_cases e : o = .s i
    · subst e; rw [offS_in] at h; exact absurd h List.not_mem_nil
    · rw [offS_ne e] at h; exact h
  refine ⟨by simp [R.len], R.tlen, fun j d e1 e2 => ?_, fun j hj => ?_, fun k d v e1 e2 => ?_, fun k hk => ?_, fun o o' a h1 h2 => R.uniq o o' a (sub o a h1) (sub o' a h2), fun o => ?_, fun o a h => R.fno o a (sub o a h), R.ex, fun a ha => ?_, R.pin⟩
  · by_cases hj : j = i
    · subst hj
      exfalso
      rw [List.getElem?_set_self' ] at e1
      cases q : env[j]? with
      | none => rw [q] at e1; cases e1
      | some x => rw [q] at e1; cases e1; exact e2 rfl
    · rw [List.getElem?_set_ne (Ne.symm hj)] at e1
      rw [offS_ne (by intro z; cases z; exact hj rfl)]
      exact R.slot j d e1 e2
  · by_cases hj2 : j = i
    · subst hj2; exact offS_in
    · rw [offS_ne (by intro z; cases z; exact hj2 rfl)]
      rw [List.getElem?_set_ne (Ne.symm hj2)] at hj
      exact R.sun j hj
  · rw [offS_ne (by intro z; cases z)]; exact R.temp k d v e1 e2
  · rw [offS_ne (by intro z; cases z)]; exact R.tun k hk
  · by_cases e : o = .s i
    · subst e; rw [offS_in]; exact List.nodup_nil
    · rw [offS_ne e]; exact R.nod o
  · obtain ⟨h1, h2, h3, h4⟩ := R.fr a ha
    exact ⟨h1, h2, h3, fun o z => h4 o (sub o a z)⟩

/-- a forgotten slot is told again: its value stands there -/
theorem REw.putS (R : REw K mg B σ H F env ts vs ow) {i : Nat} {S : List Addr} (hi : i < env.length) (h0 : ow (.s i) = []) (hv : σ[i]? = some (some v)) (h : Rp K mg F H d v S)
    (hn : ∀ a ∈ S, (∀ o, a ∉ ow o) ∧ F a = none ∧ ¬ B.out a) (hd : S.Nodup) : REw K mg B σ H F (env.set i d) ts vs (offS ow i S) := by
  have gs : ∀ o a, a ∈ offS ow i S o → (o = .s i ∧ a ∈ S) ∨ (o ≠ .s i ∧ a ∈ ow o) := fun o a ha => by
    by_cases e : o = .s i
    · subst e; rw [offS_in] at ha; exact .inl ⟨rfl, ha⟩
    · rw [offS_ne e] at ha; exact .inr ⟨e, ha⟩
  refine ⟨by simp [R.len], R.tlen, fun j d' e1 e2 => ?_, fun j hj => ?_, fun k d v e1 e2 => ?_, fun k hk => ?_, fun o o' a h1 h2 => ?_, fun o => ?_, fun o a ha => ?_, R.ex, fun a ha => ?_, R.pin⟩
  · by_cases hj : j = i
    · subst hj
      rw [List.getElem?_set_self hi] at e1
      cases e1
      rw [offS_in]
      exact ⟨v, hv, h⟩
    · rw [List.getElem?_set_ne (Ne.symm hj)] at e1
      rw [offS_ne (by intro z; cases z; exact hj rfl)]
      exact R.slot j d' e1 e2
  · by_cases hj2 : j = i
    · subst hj2
      exfalso
      rw [List.getElem?_set_self hi] at hj
      rcases hj with z | z
      · cases z
      · cases z; unfold Rp at h; exact h
    · rw [offS_ne (by intro z; cases z; exact hj2 rfl)]
      rw [List.getElem?_set_ne (Ne.symm hj2)] at hj
      exact R.sun j hj
  · rw [offS_ne (by intro z; cases z)]; exact R.temp k d v e1 e2
  · rw [offS_ne (by intro z; cases z)]; exact R.tun k hk
  · rcases gs o a h1 with ⟨rfl, q1⟩ | ⟨n1, q1⟩ <;> rcases gs o' a h2 with ⟨rfl, q2⟩ | ⟨n2, q2⟩
    · rfl
    · exact absurd q2 ((hn a q1).1 o')
    · exact absurd q1 ((hn a q2).1 o)
    · exact R.uniq o o' a q1 q2
  · by_cases e : o = .s i
    · subst e; rw [offS_in]; exact hd
    · rw [offS_ne e]; exact R.nod o
  · rcases gs o a ha with ⟨_, q⟩ | ⟨_, q⟩
    · exact (hn a q).2.1
    · exact R.fno o a q
  · obtain ⟨h1, h2, h3, h4⟩ := R.fr a ha
    refine ⟨h1, h2, h3, fun o z => ?_⟩
    rcases gs o a z with ⟨_, q⟩ | ⟨_, q⟩
    · exact (hn a q).2.2 ha
    · exact h4 o q

/-- no temporary is an alias -/
def noAl (ts : List D) : Prop := ∀ d ∈ ts, ∀ i, d ≠ .sl i
/-- a forgotten slot's value changes -/
theorem REw.resig (R : REw K mg B σ H F env ts vs ow) {i : Nat} {x : Option V} (hu : env[i]? = none ∨ env[i]? = some .un) (hp : ∀ p ∈ B.pins, p.1 ≠ i) (ha : noAl ts) : REw K mg B (σ.set i x) H F env ts vs ow := by
  refine ⟨by simp [R.len], R.tlen, fun j d e1 e2 => ?_, R.sun, fun k d v e1 e2 => ?_, R.tun, R.uniq, R.nod, R.fno, R.ex, R.fr, fun p h => ?_⟩
  · by_cases hj : j = i
    · subst hj
      exfalso
      rcases hu with z | z
      · rw [z] at e1; cases e1
      · rw [z] at e1; cases e1; exact e2 rfl
    · rw [List.getElem?_set_ne (Ne.symm hj)]; exact R.slot j d e1 e2
  · have hm : d ∈ ts := List.mem_of_getElem? e1
    exact Tm.of ((R.temp k d v e1 e2).rp (ha d hm))
  · rw [List.getElem?_set_ne (Ne.symm (hp p h))]; exact R.pin p h

/-- the last temporary is taken -/
theorem REw.take1 (R : REw K mg B σ H F env (ts ++ [d]) (vs ++ [v]) ow) (hd : ∀ i, d ≠ .sl i) : ∃ ow' S, REw K mg B σ H F env ts vs ow' ∧ Rp K mg F H d v S ∧ S.Nodup ∧ (∀ a ∈ S, (∀ o, a ∉ ow' o) ∧ F a = none ∧ ¬ B.out a) ∧ (∀ i, ow' (.s i) = ow (.s i)) ∧ (∀ o a, a ∈ ow' o → a ∈ ow o) ∧ ∀ a ∈ S, ∃ o, a ∈ ow o := by
  have tl := R.tlen
  simp only [List.length_append, List.length_cons, List.length_nil] at tl
  have hl : ts.length = vs.length := by omega
  refine ⟨low ow ts.length, ow (.t ts.length), R.drop rfl, (R.temp ts.length d v (by simp) (by rw [hl]; simp)).rp hd, R.nod _, fun a ha => ⟨fun o z => ?_, R.fno _ a ha, fun z => (R.fr a z).2.2.2 _ ha⟩, fun i => rfl, fun o a h => mem_low h, fun a ha => ⟨_, ha⟩⟩
  have e := R.uniq _ _ a (mem_low z) ha
  subst e
  unfold low at z
  dsimp only at z
  rw [if_neg (Nat.lt_irrefl _)] at z
  exact absurd z List.not_mem_nil

/-- the last temporary goes into a slot -/
theorem RE.store (R : RE K mg B σ H F env (ts ++ [d]) (vs ++ [v])) {i : Nat} (hp : ∀ p ∈ B.pins, p.1 ≠ i) (hd : ∀ j, d ≠ .sl j) (ha : noAl ts) : RE K mg B (σ.set i (some v)) H F (env.set i d) ts vs := by
  obtain ⟨ow, r⟩ := R
  by_cases hi : i < env.length
  · have r1 := r.unslot i
    have r2 := r1.resig (i := i) (x := some v) (.inr (by rw [List.getElem?_set_self hi])) hp (fun x hx j => by
      rcases List.mem_append.mp hx with z | z
      · exact ha x z j
      · rcases List.mem_cons.mp z with z | z
        · rw [z]; exact hd j
        · exact absurd z List.not_mem_nil)
    obtain ⟨ow', S, r3, rp, nd, hn, e0, _⟩ := r2.take1 hd
    have hs : i < σ.length := by rw [← r.len]; exact hi
    have r4 := r3.putS (i := i) (v := v) (by simp [hi]) (by rw [e0, offS_in]) (by rw [List.getElem?_set_self hs]) rp hn nd
    rw [List.set_set] at r4
    exact ⟨_, r4⟩
  · have hs : σ.length ≤ i := by rw [← r.len]; omega
    rw [List.set_eq_of_length_le hs, List.set_eq_of_length_le (by omega : env.length ≤ i)]
    exact RE.drop ⟨ow, r⟩ rfl

/-- what is owned by nobody that is told may be frozen -/
theorem REw.adopt (R : REw K mg B σ H F env ts vs ow) {S : List Addr} (hn : ∀ a ∈ S, (∀ o, a ∉ ow o) ∧ ¬ B.out a) : REw K mg B σ H (DL.adopt F H S) env ts vs ow :=
  R.grow (ex_adopt R.ex) (fun _ _ _ => rfl) (fun o a ha => by rw [adopt_out fun z => (hn a z).1 o ha]; exact R.fno o a ha) (adopt_ex R.ex) fun a ha => ⟨rfl, adopt_out fun z => (hn a z).2 ha⟩

/-- an alias is frozen: the slot, and the last operand -/
theorem RE.fzSlot {i : Nat} (R : RE K mg B σ H F env (ts ++ [.sl i]) (vs ++ [v])) (hu : isUn (env.getD i .un) = false) : ∃ F', RE K mg B σ H F' (env.set i (fz (env.getD i .un))) (ts ++ [fz (env.getD i .un)]) (vs ++ [v]) := by
  obtain ⟨ow, r⟩ := R
  have tl := r.tlen
  simp only [List.length_append, List.length_cons, List.length_nil] at tl
  have hl : ts.length = vs.length := by omega
  obtain ⟨hv, h0⟩ : σ[i]? = some (some v) ∧ _ := r.temp ts.length (.sl i) v (by simp) (by rw [hl]; simp)
  rw [List.getD_eq_getElem?_getD] at hu ⊢
  cases e : env[i]? with
  | none => rw [e] at hu; cases hu
  | some d =>
    rw [e] at hu
    simp only [Option.getD_some] at hu ⊢
    have nun : d ≠ .un := fun z => by rw [z] at hu; cases hu
    obtain ⟨v', e1, rp⟩ := r.slot i d e nun
    rw [hv] at e1
    cases e1
    have hi : i < env.length := (List.getElem?_eq_some_iff.mp e).1
    have r1 := (r.drop (us := [.sl i]) (ws := [v]) rfl).unslot i
    have dis : ∀ a ∈ ow (.s i), ∀ o, a ∉ offS (low ow ts.length) i [] o := fun a ha o z => by
      by_cases q : o = .s i
      · subst q; rw [offS_in] at z; exact absurd z List.not_mem_nil
      · rw [offS_ne q] at z
        exact q (r.uniq _ _ a (mem_low z) ha)
    have r2 := r1.adopt (S := ow (.s i)) fun a ha => ⟨dis a ha, fun z => (r.fr a z).2.2.2 _ ha⟩
    have rp2 := rp.fz r.ex
    have r3 := r2.putS (i := i) (v := v) (d := fz d) (S := []) (by simp [hi]) offS_in hv rp2 (fun a ha => absurd ha List.not_mem_nil) List.nodup_nil
    rw [List.set_set] at r3
    exact ⟨_, RE.push0 ⟨_, r3⟩ (Tm.of rp2)⟩
/-- a temporary is frozen -/
theorem RE.fzLast (R : RE K mg B σ H F env (ts ++ [d]) (vs ++ [v])) (hd : ∀ j, d ≠ .sl j) : ∃ F', RE K mg B σ H F' env (ts ++ [fz d]) (vs ++ [v]) ∧ Rp K mg F' H (fz d) v [] := by
  obtain ⟨ow, r⟩ := R
  obtain ⟨ow', S, r1, rp, nd, hn, _⟩ := r.take1 hd
  have r2 := r1.adopt (S := S) fun a ha => ⟨(hn a ha).1, (hn a ha).2.2⟩
  have rp2 := rp.fz r.ex
  exact ⟨_, RE.push0 ⟨_, r2⟩ (Tm.of rp2), rp2⟩

/-- what stands between is dropped -/
theorem RE.dropMid (R : RE K mg B σ H F env (ts ++ us ++ [d]) (vs ++ ws ++ [v])) (hl : us.length = ws.length) (hd : ∀ j, d ≠ .sl j) : RE K mg B σ H F env (ts ++ [d]) (vs ++ [v]) := by
  obtain ⟨ow, r⟩ := R
  obtain ⟨ow', S, r1, rp, nd, hn, _⟩ := r.take1 hd
  exact ⟨_, (r1.drop hl).push (Tm.of rp) (fun a ha => ⟨fun o z => (hn a ha).1 o (mem_low z), (hn a ha).2⟩) nd⟩

/-- several temporaries are taken -/
theorem REw.takes : ∀ {us : List D} {ws : List V} {ts : List D} {vs : List V} {ow : Own → List Addr}, us.length = ws.length → noAl us → REw K mg B σ H F env (ts ++ us) (vs ++ ws) ow → ∃ ow' S, REw K mg B σ H F env ts vs ow' ∧ RpL K mg F H us ws S ∧ S.Nodup ∧ (∀ a ∈ S, (∀ o, a ∉ ow' o) ∧ F a = none ∧ ¬ B.out a) ∧ (∀ i, ow' (.s i) = ow (.s i)) ∧ (∀ o a, a ∈ ow' o → a ∈ ow o) ∧ ∀ a ∈ S, ∃ o, a ∈ ow o
  | [], [], ts, vs, ow, _, _, R => by
    rw [List.append_nil, List.append_nil] at R
    exact ⟨ow, [], R, by unfold RpL; exact ⟨rfl, rfl⟩, List.nodup_nil, fun a ha => absurd ha List.not_mem_nil, fun _ => rfl, fun _ _ h => h, fun a ha => absurd ha List.not_mem_nil⟩
  | d :: us, v :: ws, ts, vs, ow, hl, hn, R => by
    have R' : REw K mg B σ H F env ((ts ++ [d]) ++ us) ((vs ++ [v]) ++ ws) ow := by
      rw [List.append_assoc, List.append_assoc]
      exact R
    obtain ⟨ow1, S2, r1, rp2, nd2, hn2, e1, sb1, in1⟩ := REw.takes (by simpa using hl) (fun x hx => hn x (List.mem_cons_of_mem _ hx)) R'
    obtain ⟨ow2, S1, r2, rp1, nd1, hn1, e2, sb2, in2⟩ := r1.take1 (hn d List.mem_cons_self)
    have tl := r1.tlen
    refine ⟨ow2, S1 ++ S2, r2, ?_, ?_, fun a ha => ?_, fun i => (e2 i).trans (e1 i), fun o a h => sb1 o a (sb2 o a h), fun a ha => ?_⟩
    · unfold RpL
      exact ⟨v, ws, S1, S2, rfl, rfl, rp1, rp2⟩
    · refine List.nodup_append.mpr ⟨nd1, nd2, fun a ha b hb z => ?_⟩
      subst z
      obtain ⟨o, ho⟩ := in2 a ha
      exact (hn2 a hb).1 o ho
    · rcases List.mem_append.mp ha with ha | ha
      · exact hn1 a ha
      · exact ⟨fun o z => (hn2 a ha).1 o (sb2 o a z), (hn2 a ha).2⟩
    · rcases List.mem_append.mp ha with ha | ha
      · obtain ⟨o, ho⟩ := in2 a ha
        exact ⟨o, sb1 o a ho⟩
      · exact in1 a ha
  | [], _ :: _, _, _, _, h, _, _ => by cases h
  | _ :: _, [], _, _, _, h, _, _ => by cases h

/-- temporaries become one owned object -/
theorem RE.newOwn {p : Addr} {o : HO} (R : RE K mg B σ H F env (ts ++ us) (vs ++ ws)) (hl : us.length = ws.length) (hn : noAl us) (hp : H p = none)
    (h : ∀ S, RpL K mg F (upd H p o) us ws S → Rp K mg F (upd H p o) d (.ref p) (p :: S)) : RE K mg B σ (upd H p o) F env (ts ++ [d]) (vs ++ [.ref p]) := by
  obtain ⟨ow, r⟩ := R
  obtain ⟨ow', S, r1, rp, nd, hnn, _, _, hin⟩ := r.takes hl hn
  obtain ⟨n1, n2, n3⟩ := r.nout hp
  have np : ∀ a ∈ S, a ≠ p := fun a ha z => by
    obtain ⟨o', ho⟩ := hin a ha
    rw [z] at ho
    exact n3 o' ho
  have r2 := r1.newH (o := o) hp
  have rp2 := h S (rp.stay (Ex.refl F) fun a ha => upd_ne (np a ha))
  refine ⟨_, r2.push (Tm.of rp2) (fun a ha => ?_) (List.nodup_cons.mpr ⟨fun z => np p z rfl, nd⟩)⟩
  rcases List.mem_cons.mp ha with z | ha
  · subst z
    exact ⟨(r1.nout hp).2.2, n2, n1⟩
  · exact hnn a ha
/-- temporaries become a tuple -/
theorem RE.newTup {p : Addr} (R : RE K mg B σ H F env (ts ++ us) (vs ++ ws)) (hl : us.length = ws.length) (hn : noAl us) (hp : H p = none) : RE K mg B σ (upd H p (.tup ws)) (upd F p (.tup ws)) env (ts ++ [.tup us]) (vs ++ [.ref p]) := by
  obtain ⟨ow, r⟩ := R
  have r0 := r.newF (o := .tup ws) hp
  obtain ⟨ow', S, r1, rp, nd, hnn, _, _, hin⟩ := r0.takes hl hn
  refine ⟨_, r1.push (Tm.of ?_) hnn nd⟩
  unfold Rp
  exact ⟨p, ws, rfl, rp, Or.inl (Or.inl upd_same)⟩
theorem RE.newLst {p : Addr} (R : RE K mg B σ H F env (ts ++ us) (vs ++ ws)) (hl : us.length = ws.length) (hn : noAl us) (hp : H p = none) : RE K mg B σ (upd H p (.lst ws)) F env (ts ++ [.lst true us]) (vs ++ [.ref p]) :=
  R.newOwn hl hn hp fun S h => by
    unfold Rp
    exact ⟨p, ws, S, rfl, h, by rw [if_pos rfl]; exact ⟨upd_same, rfl⟩⟩
theorem RE.newDct {p : Addr} {ks : List Key} (R : RE K mg B σ H F env (ts ++ us) (vs ++ ws)) (hl : us.length = ws.length) (hk : ks.length = us.length) (hn : noAl us) (hp : H p = none) : RE K mg B σ (upd H p (.dK (ks.zip ws))) F env (ts ++ [.dct true ks us]) (vs ++ [.ref p]) :=
  R.newOwn hl hn hp fun S h => by
    unfold Rp
    exact ⟨p, ws, S, rfl, hk, h, by rw [if_pos rfl]; exact ⟨upd_same, rfl⟩⟩
/-- an owned list of frozen things that stand elsewhere -/
theorem RE.newLst0 {p : Addr} {xs : List D} (R : RE K mg B σ H F env ts vs) (h : RpL K mg F H xs ws []) (hp : H p = none) : RE K mg B σ (upd H p (.lst ws)) F env (ts ++ [.lst true xs]) (vs ++ [.ref p]) := by
  obtain ⟨ow, r⟩ := R
  obtain ⟨n1, n2, n3⟩ := r.nout hp
  have r2 := r.newH (o := .lst ws) hp
  refine ⟨_, r2.push (S := [p]) (Tm.of ?_) (fun a ha => ?_) (List.nodup_cons.mpr ⟨List.not_mem_nil, List.nodup_nil⟩)⟩
  · unfold Rp
    exact ⟨p, ws, [], rfl, h.stay (Ex.refl F) fun a ha => absurd ha List.not_mem_nil, by rw [if_pos rfl]; exact ⟨upd_same, rfl⟩⟩
  · rcases List.mem_cons.mp ha with z | ha
    · subst z; exact ⟨n3, n2, n1⟩
    · exact absurd ha List.not_mem_nil
end
end DL
set_option Elab.async false
set_option linter.all false
set_option maxRecDepth 100000
set_option maxHeartbeats 2000000
/-! DLc: readings from denotations: expressions, arguments, tests. -/
namespace DL
open PySem L2

inductive Res (α : Type) where
  | ok (a : α) (env : List D)
  | er (c : Str) (ns : List Str) (xs : List D) (env : List D)
  | no
abbrev Dn (α : Type) := List D → Res α
@[simp] def Res.bind {α β : Type} (r : Res α) (f : α → Dn β) : Res β := match r with
  | .ok a e => f a e
  | .er c ns xs e => .er c ns xs e
  | .no => .no
@[simp] abbrev Dn.bind {α β : Type} (m : Dn α) (f : α → Dn β) : Dn β := fun env => (m env).bind f

/-- an exception as it flies: its class, its own dict -/
def ErrIs (K : PySem.W.Frag) (mg : Str → Option Value) (F H : Hp) (c : Str) (ns : List Str) (xs : List D) (cls : Value) (dx : Option Addr) : Prop :=
  ∃ C, mg c = some (.ref C) ∧ cls = .ref C ∧ ((ns = [] ∧ xs = [] ∧ dx = none) ∨ ∃ d vs, dx = some d ∧ F d = some (.xd (ns.zip vs)) ∧ ns.length = xs.length ∧ RpL K mg F H xs vs [])

/-- what must hold of a result -/
def ResP {α : Type} (r : Res α) (k : α → List D → Prop) (g : Str → List Str → List D → List D → Prop) : Prop := match r with
  | .ok a e => k a e
  | .er c ns xs e => g c ns xs e
  | .no => False
theorem ResP.bind {α β : Type} {r : Res α} {f : α → Dn β} {k : β → List D → Prop} {g : Str → List Str → List D → List D → Prop} (h : ResP (r.bind f) k g) : ResP r (fun a e => ResP (f a e) k g) g := by
  cases r with
  | ok a e => exact h
  | er c ns xs e => exact h
  | no => exact h
theorem ResP.mono {α : Type} {r : Res α} {k k' : α → List D → Prop} {g g' : Str → List Str → List D → List D → Prop} (h : ResP r k g) (hk : ∀ a e, k a e → k' a e) (hg : ∀ c ns xs e, g c ns xs e → g' c ns xs e) : ResP r k' g' := by
  cases r with
  | ok a e => exact hk _ _ h
  | er c ns xs e => exact hg _ _ _ _ h
  | no => exact h

section
variable (K : PySem.W.Frag) (mg : Str → Option Value) (W : WX)
/-- an error's end -/
def ErrK (B : Bd) (σ : St) (ts : List D) (vs : List V) : Str → List Str → List D → List D → Prop := fun c ns xs e =>
  ∀ cls dx H' F', RE K mg B σ H' F' e ts vs → ErrIs K mg F' H' c ns xs cls dx → W cls dx σ H'
def rdE (den : Dn D) : TE := fun σ H Q => ∃ B F env ts vs, RE K mg B σ H F env ts vs ∧
  ResP (den env) (fun d e => ∀ v H' F', RE K mg B σ H' F' e (ts ++ [d]) (vs ++ [v]) → Q v H') (ErrK K mg W B σ ts vs)
def rdA (den : Dn (List D)) : TA := fun σ H Q => ∃ B F env ts vs, RE K mg B σ H F env ts vs ∧
  ResP (den env) (fun ds e => ∀ ws H' F', ds.length = ws.length → RE K mg B σ H' F' e (ts ++ ds) (vs ++ ws) → Q ws H') (ErrK K mg W B σ ts vs)
def rdT (den : Dn Bool) : TT := fun σ H Q => ∃ B F env ts vs, RE K mg B σ H F env ts vs ∧
  ResP (den env) (fun b e => ∀ H' F', RE K mg B σ H' F' e ts vs → Q b H') (ErrK K mg W B σ ts vs)
end
abbrev GE (X : Cx) (W : WX) (e : Expr) (den : Dn D) : Prop := PE X e (rdE X.K X.mg W den)
abbrev GA (X : Cx) (W : WX) (es : List Expr) (den : Dn (List D)) : Prop := PA X es (rdA X.K X.mg W den)
abbrev GT (X : Cx) (W : WX) (e : Expr) (den : Dn Bool) : Prop := PT X e (rdT X.K X.mg W den)
abbrev GW (X : Cx) (W : WX) (e : Expr) (den : Dn Bool) : Prop := PW X e (rdT X.K X.mg W den)

theorem PE.imp {X : Cx} {e : Expr} {t t' : TE} (h : PE X e t) (k : ∀ σ H Q, t' σ H Q → t σ H Q) : PE X e t' := ⟨fun pins s σ H Q I q => h.run pins s σ H Q I (k σ H Q q)⟩
theorem PA.imp {X : Cx} {e : List Expr} {t t' : TA} (h : PA X e t) (k : ∀ σ H Q, t' σ H Q → t σ H Q) : PA X e t' := ⟨fun pos pins s σ H Q I q => h.run pos pins s σ H Q I (k σ H Q q)⟩
theorem PT.imp {X : Cx} {e : Expr} {t t' : TT} (h : PT X e t) (k : ∀ σ H Q, t' σ H Q → t σ H Q) : PT X e t' := ⟨fun pins s σ H Q I q => h.run pins s σ H Q I (k σ H Q q)⟩
theorem PW.imp {X : Cx} {e : Expr} {t t' : TT} (h : PW X e t) (k : ∀ σ H Q, t' σ H Q → t σ H Q) : PW X e t' := ⟨fun wh pins s σ H Q I q => h.run wh pins s σ H Q I (k σ H Q q)⟩

/-! ### denotations -/
def isSl : D → Bool
  | .sl _ => true
  | _ => false
/-- a slot's value: itself where nothing is owned, else an alias -/
@[simp] def dVar (i : Nat) : Dn D := fun env => match env[i]? with
  | some d => if froz d then .ok d env else if isUn d then .no else .ok (.sl i) env
  | none => .no
@[simp] def dC (d : D) : Dn D := fun env => .ok d env
/-- used up: an alias is frozen -/
def dUse (d : D) : Dn D := fun env => match d with
  | .sl i => if isUn (env.getD i .un) || isSl (fz (env.getD i .un)) then .no else .ok (fz (env.getD i .un)) (env.set i (fz (env.getD i .un)))
  | d => .ok d env
@[simp] abbrev dU (m : Dn D) : Dn D := m.bind dUse
@[simp] def lift {α : Type} (o : Option α) : Dn α := fun env => match o with
  | some a => .ok a env
  | none => .no
@[simp] def dOp (f : D → D → Option D) (a b : Dn D) : Dn D := a.bind fun x => b.bind fun y => fun env => lift (f (rs env x) (rs env y)) env
@[simp] def dUn (f : D → Option D) (a : Dn D) : Dn D := a.bind fun x => fun env => lift (f (rs env x)) env
@[simp] def dNil : Dn (List D) := fun env => .ok [] env
@[simp] def dCons (a : Dn D) (r : Dn (List D)) : Dn (List D) := a.bind fun x => r.bind fun xs => fun env => .ok (x :: xs) env
def asBool : D → Option Bool
  | .bl b => some b
  | _ => none
@[simp] def dTest (a : Dn D) : Dn Bool := a.bind fun x => fun env => lift (asBool (rs env x)) env
@[simp] def dNot (a : Dn Bool) : Dn Bool := a.bind fun b => fun env => .ok (!b) env
@[simp] def dAnd (a b : Dn Bool) : Dn Bool := a.bind fun c => if c then b else fun env => .ok false env
@[simp] def dOr (a b : Dn Bool) : Dn Bool := a.bind fun c => if c then fun env => .ok true env else b
@[simp] def dIf (c : Dn Bool) (a b : Dn D) : Dn D := c.bind fun k => if k then a else b
@[simp] def dB (c : Dn Bool) : Dn D := c.bind fun b => fun env => .ok (.bl b) env
@[simp] def dLst (r : Dn (List D)) : Dn D := r.bind fun xs => fun env => if xs.length ≤ sizeLine then .ok (.lst true xs) env else .no
@[simp] def dTup (r : Dn (List D)) : Dn D := r.bind fun xs => fun env => if xs.length ≤ sizeLine then .ok (.tup xs) env else .no
/-- a call by values -/
@[simp] def dCall (f : List D → Option D) (r : Dn (List D)) : Dn D := r.bind fun xs => fun env => if (xs.map (rs env)).any isUn then .no else lift (f (xs.map (rs env))) env
/-- a chain of two comparisons -/
@[simp] def dChain (f g : D → D → Option D) (a b c : Dn D) : Dn Bool := a.bind fun x => b.bind fun y => fun env => (lift ((f (rs env x) (rs env y)).bind asBool) env).bind fun k => if k then c.bind fun z => fun env => lift ((g (rs env y) (rs env z)).bind asBool) env else fun env => .ok false env

section
variable (K : PySem.W.Frag) (mg : Str → Option Value) (W : WX)
def rdEU (den : Dn D) : TE := fun σ H Q => ∃ B F env ts vs, RE K mg B σ H F env ts vs ∧
  ResP (den env) (fun d e => ∀ v H' F', (∀ i, d ≠ .sl i) → RE K mg B σ H' F' e (ts ++ [d]) (vs ++ [v]) → Q v H') (ErrK K mg W B σ ts vs)
def rdAU (den : Dn (List D)) : TA := fun σ H Q => ∃ B F env ts vs, RE K mg B σ H F env ts vs ∧
  ResP (den env) (fun ds e => ∀ ws H' F', ds.length = ws.length → noAl ds → RE K mg B σ H' F' e (ts ++ ds) (vs ++ ws) → Q ws H') (ErrK K mg W B σ ts vs)
end
abbrev GEU (X : Cx) (W : WX) (e : Expr) (den : Dn D) : Prop := PE X e (rdEU X.K X.mg W den)
abbrev GAU (X : Cx) (W : WX) (es : List Expr) (den : Dn (List D)) : Prop := PA X es (rdAU X.K X.mg W den)

/-- an operation by trees -/
def OpS (K : PySem.W.Frag) (mg : Str → Option Value) (r : R2) (f : D → D → Option D) : Prop :=
  ∀ (B : Bd) (σ : St) (H F : Hp) (env ts : List D) (vs : List V) (dx dy : D) (vx vy : V) (Sx Sy : List Addr) (d : D) (Q : VK), RE K mg B σ H F env ts vs → Rp K mg F H dx vx Sx → Rp K mg F H dy vy Sy → f dx dy = some d →
    (∀ v H' F', RE K mg B σ H' F' env (ts ++ [d]) (vs ++ [v]) → Q v H') → r vx vy H Q
def UnS (K : PySem.W.Frag) (mg : Str → Option Value) (r : V → Hp → VK → Prop) (f : D → Option D) : Prop :=
  ∀ (B : Bd) (σ : St) (H F : Hp) (env ts : List D) (vs : List V) (dx : D) (vx : V) (Sx : List Addr) (d : D) (Q : VK), RE K mg B σ H F env ts vs → Rp K mg F H dx vx Sx → f dx = some d →
    (∀ v H' F', RE K mg B σ H' F' env (ts ++ [d]) (vs ++ [v]) → Q v H') → r vx H Q
def AllRp (K : PySem.W.Frag) (mg : Str → Option Value) (F H : Hp) : List D → List V → Prop
  | [], vs => vs = []
  | d :: ds, vs => ∃ v r, vs = v :: r ∧ (∃ S, Rp K mg F H d v S) ∧ AllRp K mg F H ds r
def CaS (K : PySem.W.Frag) (mg : Str → Option Value) (r : List V → Hp → VK → Prop) (f : List D → Option D) : Prop :=
  ∀ (B : Bd) (σ : St) (H F : Hp) (env ts : List D) (vs : List V) (dx : List D) (vx : List V) (d : D) (Q : VK), RE K mg B σ H F env ts vs → AllRp K mg F H dx vx → f dx = some d →
    (∀ v H' F', RE K mg B σ H' F' env (ts ++ [d]) (vs ++ [v]) → Q v H') → r vx H Q
/-- two rules for one operator -/
@[simp] def fOr (f g : D → D → Option D) : D → D → Option D := fun x y => match f x y with
  | some d => some d
  | none => g x y
theorem OpS.or {K : PySem.W.Frag} {mg : Str → Option Value} {r r' : R2} {f g : D → D → Option D} (h : OpS K mg r f) (h' : OpS K mg r' g) : OpS K mg (fun x y H Q => r x y H Q ∨ r' x y H Q) (fOr f g) :=
  fun B σ H F env ts vs dx dy vx vy Sx Sy d Q R h1 h2 e k => by
    unfold fOr at e
    cases q : f dx dy with
    | some d' =>
      rw [q] at e
      cases e
      exact Or.inl (h B σ H F env ts vs dx dy vx vy Sx Sy _ Q R h1 h2 q k)
    | none =>
      rw [q] at e
      exact Or.inr (h' B σ H F env ts vs dx dy vx vy Sx Sy d Q R h1 h2 e k)

section
variable {X : Cx} {W : WX} {e a b c : Expr} {es : List Expr} {pos p : Pos} {da db dc : Dn D} {dr : Dn (List D)} {dt du : Dn Bool}

theorem isUn_of {d : D} (h : isUn d = false) : d ≠ .un := fun z => by rw [z] at h; cases h
theorem ge_var (i : Nat) {x : Str} (hN : X.N[i]? = some x := by rfl) (hv : Vis X.env.scope x := by first | exact Or.inl rfl | exact Or.inr (Or.inl rfl) | exact Or.inr (Or.inr rfl)) (hd : (x == ("__debug__" : Str)) = false := by decide)
    (hcd : (x == ("__classdict__" : Str)) = false := by decide) : GE X W (.Name x pos) (dVar i) := by
  refine PE.imp (pe_var hN hv hd hcd) fun σ H Q ⟨B, F, env, ts, vs, R, h⟩ => ?_
  unfold dVar at h
  cases e : env[i]? with
  | none => rw [e] at h; exact h.elim
  | some d =>
    rw [e] at h
    dsimp only at h
    by_cases hf : froz d = true
    · rw [if_pos hf] at h
      obtain ⟨ow, r⟩ := R
      obtain ⟨v, e1, rp⟩ := r.slot i d e (fun z => by rw [z] at hf; cases hf)
      refine ⟨v, e1, h v H F ?_⟩
      have e0 := rp.froz hf
      rw [e0] at rp
      exact RE.push0 ⟨ow, r⟩ (Tm.of rp)
    · rw [if_neg hf] at h
      by_cases hu : isUn d = true
      · rw [if_pos hu] at h; exact h.elim
      · rw [if_neg hu] at h
        obtain ⟨ow, r⟩ := R
        obtain ⟨v, e1, rp⟩ := r.slot i d e (fun z => hu (by rw [z]; rfl))
        exact ⟨v, e1, h v H F (RE.push0 ⟨ow, r⟩ ⟨e1, rfl⟩)⟩
theorem ge_const {v : V} {d : D} (h : PE X e (tC v)) (hr : ∀ F H, Rp X.K X.mg F H d v []) : GE X W e (dC d) :=
  PE.imp h fun σ H Q ⟨B, F, env, ts, vs, R, q⟩ => q v H F (R.push0 (Tm.of (hr F H)))
theorem rp_int {K : PySem.W.Frag} {mg : Str → Option Value} {F H : Hp} {i : Int} : Rp K mg F H (.int i) (.int i) [] := by unfold Rp; exact ⟨rfl, rfl⟩
theorem rp_bl {K : PySem.W.Frag} {mg : Str → Option Value} {F H : Hp} {i : Bool} : Rp K mg F H (.bl i) (.bl i) [] := by unfold Rp; exact ⟨rfl, rfl⟩
theorem rp_str {K : PySem.W.Frag} {mg : Str → Option Value} {F H : Hp} {i : Str} : Rp K mg F H (.str i) (.str i) [] := by unfold Rp; exact ⟨rfl, rfl⟩
theorem rp_non {K : PySem.W.Frag} {mg : Str → Option Value} {F H : Hp} : Rp K mg F H .non .non [] := by unfold Rp; exact ⟨rfl, rfl⟩
theorem ge_int {i j pos} : GE X W (.Constant (.int i) j pos) (dC (.int i)) := ge_const pe_int fun F H => rp_int
theorem ge_bl {b j pos} : GE X W (.Constant (.bool b) j pos) (dC (.bl b)) := ge_const pe_bl fun F H => rp_bl
theorem ge_non {j pos} : GE X W (.Constant .none j pos) (dC .non) := ge_const pe_non fun F H => rp_non
theorem ge_str {x j pos} : GE X W (.Constant (.str x) j pos) (dC (.str x)) := ge_const pe_str fun F H => rp_str
/-- a module's int -/
theorem ge_gint {x : Str} {i : Int} {t : Tok} (hm : X.mg x = some (.int i t)) (hg : Gl X x := by rfl) (hd : (x == ("__debug__" : Str)) = false := by decide) : GE X W (.Name x pos) (dC (.int i)) :=
  ge_const (pe_glob (v := .int i) hg hm (show ∃ t', Value.int i t = Value.int i t' from ⟨t, rfl⟩) hd) fun F H => rp_int

/-! ### arguments -/
theorem ga_nil : GA X W [] dNil := PA.imp pa_nil fun σ H Q ⟨B, F, env, ts, vs, R, q⟩ => q [] H F rfl (by rw [List.append_nil, List.append_nil]; exact R)
theorem gau_nil : GAU X W [] dNil := PA.imp pa_nil fun σ H Q ⟨B, F, env, ts, vs, R, q⟩ => q [] H F rfl (fun d h => absurd h List.not_mem_nil) (by rw [List.append_nil, List.append_nil]; exact R)
theorem ErrK.pop {K : PySem.W.Frag} {mg : Str → Option Value} {B : Bd} {σ : St} {ts us : List D} {vs ws : List V} {c : Str} {ns : List Str} {xs e : List D} (h : ErrK K mg W B σ ts vs c ns xs e) (hl : us.length = ws.length) : ErrK K mg W B σ (ts ++ us) (vs ++ ws) c ns xs e :=
  fun cls dx H' F' R q => h cls dx H' F' (R.drop hl) q
theorem RE.tlen {K : PySem.W.Frag} {mg : Str → Option Value} {B : Bd} {σ : St} {F H : Hp} {env ts : List D} {vs : List V} (R : RE K mg B σ H F env ts vs) : ts.length = vs.length := let ⟨_, r⟩ := R; r.tlen
theorem ga_cons (ha : GE X W e da) (hr : GA X W es dr) (hs : starEach (e :: es) X.env = (false, eval e X.env) :: starEach es X.env := by rfl) : GA X W (e :: es) (dCons da dr) := by
  refine PA.imp (pa_cons ha hr hs) fun σ H Q ⟨B, F, env, ts, vs, R, q⟩ => ?_
  refine ⟨B, F, env, ts, vs, R, (q.bind).mono (fun x e1 h1 v H1 F1 R1 => ?_) fun _ _ _ _ z => z⟩
  refine ⟨B, F1, e1, ts ++ [x], vs ++ [v], R1, (h1.bind).mono (fun xs e2 h2 ws H2 F2 hl R2 => ?_) fun _ _ _ _ z => z.pop rfl⟩
  refine h2 (v :: ws) H2 F2 (by simp [hl]) ?_
  rw [List.append_assoc, List.append_assoc] at R2
  exact R2
theorem gau_cons (ha : GEU X W e da) (hr : GAU X W es dr) (hs : starEach (e :: es) X.env = (false, eval e X.env) :: starEach es X.env := by rfl) : GAU X W (e :: es) (dCons da dr) := by
  refine PA.imp (pa_cons ha hr hs) fun σ H Q ⟨B, F, env, ts, vs, R, q⟩ => ?_
  refine ⟨B, F, env, ts, vs, R, (q.bind).mono (fun x e1 h1 v H1 F1 hx R1 => ?_) fun _ _ _ _ z => z⟩
  refine ⟨B, F1, e1, ts ++ [x], vs ++ [v], R1, (h1.bind).mono (fun xs e2 h2 ws H2 F2 hl hn R2 => ?_) fun _ _ _ _ z => z.pop rfl⟩
  refine h2 (v :: ws) H2 F2 (by simp [hl]) (fun d hd => (List.mem_cons.mp hd).elim (fun z => by rw [z]; exact hx) fun z => hn d z) ?_
  rw [List.append_assoc, List.append_assoc] at R2
  exact R2

/-! ### used up -/
theorem ge_use (ha : GE X W e da) : GEU X W e (dU da) := by
  refine PE.imp ha fun σ H Q ⟨B, F, env, ts, vs, R, q⟩ => ?_
  refine ⟨B, F, env, ts, vs, R, (q.bind).mono (fun x e1 h1 v H1 F1 R1 => ?_) fun _ _ _ _ z => z⟩
  cases x with
  | sl i =>
    unfold dUse at h1
    dsimp only at h1
    cases hu : isUn (e1.getD i .un) with
    | true => rw [hu, Bool.true_or, if_pos rfl] at h1; exact h1.elim
    | false =>
      rw [hu, Bool.false_or] at h1
      cases hs : isSl (fz (e1.getD i .un)) with
      | true => rw [hs, if_pos rfl] at h1; exact h1.elim
      | false =>
        rw [hs, if_neg Bool.false_ne_true] at h1
        obtain ⟨F2, R2⟩ := R1.fzSlot hu
        exact h1 v H1 F2 (fun j z => by rw [z] at hs; cases hs) R2
  | _ => exact h1 v H1 F1 (fun j z => by cases z) R1
theorem geu_ge (h : GEU X W e da) : GE X W e da := PE.imp h fun σ H Q ⟨B, F, env, ts, vs, R, q⟩ => ⟨B, F, env, ts, vs, R, q.mono (fun _ _ z v H' F' _ R' => z v H' F' R') fun _ _ _ _ z => z⟩

/-! ### displays -/
theorem ge_list (h : GAU X W es dr) : GE X W (.List es pos) (dLst dr) := by
  refine PE.imp (pe_lst h) fun σ H Q ⟨B, F, env, ts, vs, R, q⟩ => ?_
  refine ⟨B, F, env, ts, vs, R, (q.bind).mono (fun xs e1 h1 ws H1 F1 hl hn R1 => ?_) fun _ _ _ _ z => z⟩
  by_cases hz : xs.length ≤ sizeLine
  · rw [if_pos hz] at h1
    exact ⟨by rw [← hl]; exact hz, fun p hp => h1 (.ref p) _ F1 (R1.newLst hl hn hp)⟩
  · rw [if_neg hz] at h1; exact h1.elim
theorem ge_tup {x1} (h : GAU X W es dr) : GE X W (.Tuple es x1 pos) (dTup dr) := by
  refine PE.imp (pe_tup h) fun σ H Q ⟨B, F, env, ts, vs, R, q⟩ => ?_
  refine ⟨B, F, env, ts, vs, R, (q.bind).mono (fun xs e1 h1 ws H1 F1 hl hn R1 => ?_) fun _ _ _ _ z => z⟩
  by_cases hz : xs.length ≤ sizeLine
  · rw [if_pos hz] at h1
    exact ⟨by rw [← hl]; exact hz, fun p hp => h1 (.ref p) _ _ (R1.newTup hl hn hp)⟩
  · rw [if_neg hz] at h1; exact h1.elim

/-! ### operators -/
theorem ResP.lift {α : Type} {o : Option α} {env : List D} {k : α → List D → Prop} {g : Str → List Str → List D → List D → Prop} (h : ResP (DL.lift o env) k g) : ∃ a, o = some a ∧ k a env := by
  unfold DL.lift at h
  cases o with
  | none => exact h.elim
  | some a => exact ⟨a, rfl, h⟩
theorem op_imp {t : TE} {r : R2} {f : D → D → Option D} (hf : OpS X.K X.mg r f) (h1 : ∀ y, f .un y = none) (h2 : ∀ x, f x .un = none) {σ : St} {H : Hp} {Q : VK}
    (h : rdE X.K X.mg W (dOp f da db) σ H Q) : tOp r (rdE X.K X.mg W da) (rdE X.K X.mg W db) σ H Q := by
  obtain ⟨B, F, env, ts, vs, R, q⟩ := h
  refine ⟨B, F, env, ts, vs, R, (q.bind).mono (fun x e1 q1 v H1 F1 R1 => ?_) fun _ _ _ _ z => z⟩
  refine ⟨B, F1, e1, ts ++ [x], vs ++ [v], R1, (q1.bind).mono (fun y e2 q2 u H2 F2 R2 => ?_) fun _ _ _ _ z => z.pop rfl⟩
  obtain ⟨d, e, k⟩ := q2.lift
  rw [List.append_assoc, List.append_assoc] at R2
  obtain ⟨⟨Sx, rx⟩, Sy, ry⟩ := R2.last2 (fun z => by rw [z, h1] at e; cases e) (fun z => by rw [z, h2] at e; cases e)
  exact hf B σ H2 F2 e2 ts vs _ _ v u Sx Sy d Q (R2.drop rfl) rx ry e k
theorem ge_op {op : Operator} {r : R2} {f : D → D → Option D} (ho : OpR X (binaryOp op) r) (hf : OpS X.K X.mg r f) (ha : GE X W a da) (hb : GE X W b db)
    (h1 : ∀ y, f .un y = none := by intro y; first | rfl | (cases y <;> rfl)) (h2 : ∀ x, f x .un = none := by intro x; first | rfl | (cases x <;> rfl)) : GE X W (.BinOp a op b pos) (dOp f da db) :=
  PE.imp (pe_op ho ha hb) fun σ H Q h => op_imp (t := fun _ _ _ => True) hf h1 h2 h
theorem ge_cmp {op : CmpOp} {r : R2} {f : D → D → Option D} (ho : OpR X (compareOp op) r) (hf : OpS X.K X.mg r f) (ha : GE X W a da) (hb : GE X W b db) (hm : behindInMarks op b = false := by first | exact nomark _ | rfl)
    (h1 : ∀ y, f .un y = none := by intro y; first | rfl | (cases y <;> rfl)) (h2 : ∀ x, f x .un = none := by intro x; first | rfl | (cases x <;> rfl)) : GE X W (.Compare a [op] [b] pos) (dOp f da db) :=
  PE.imp (pe_cmpR ho ha hb hm) fun σ H Q h => op_imp (t := fun _ _ _ => True) hf h1 h2 h
theorem ge_un {op : UnaryOp} {r : V → Hp → VK → Prop} {f : D → Option D} (ho : UnR X (unaryOp op) r) (hf : UnS X.K X.mg r f) (ha : GE X W a da) (h1 : f .un = none := by rfl) : GE X W (.UnaryOp op a pos) (dUn f da) := by
  refine PE.imp (pe_un ho ha) fun σ H Q ⟨B, F, env, ts, vs, R, q⟩ => ?_
  refine ⟨B, F, env, ts, vs, R, (q.bind).mono (fun x e1 q1 v H1 F1 R1 => ?_) fun _ _ _ _ z => z⟩
  obtain ⟨d, e, k⟩ := q1.lift
  obtain ⟨S, rx⟩ := R1.last (fun z => by rw [z, h1] at e; cases e)
  exact hf B σ H1 F1 e1 ts vs _ v S d Q (R1.drop rfl) rx e k

/-! ### tests -/
theorem asBool_eq {x : D} {b : Bool} (h : asBool x = some b) : x = .bl b := by
  cases x with
  | bl c => cases h; rfl
  | _ => cases h
theorem rp_bl_inv {K : PySem.W.Frag} {mg : Str → Option Value} {F H : Hp} {b : Bool} {v : V} {S : List Addr} (h : Rp K mg F H (.bl b) v S) : v = .bl b := by
  unfold Rp at h; exact h.1
theorem RE.bool {K : PySem.W.Frag} {mg : Str → Option Value} {B : Bd} {σ : St} {F H : Hp} {env ts : List D} {vs : List V} {d : D} {v : V} {b : Bool} (R : RE K mg B σ H F env (ts ++ [d]) (vs ++ [v])) (h : asBool (rs env d) = some b) : v = .bl b := by
  have e := asBool_eq h
  obtain ⟨S, rx⟩ := R.last (fun z => by rw [z] at e; cases e)
  rw [e] at rx
  exact rp_bl_inv rx
/-- any expression that gives True or False, as a test -/
theorem gt_of (h : GE X W a da) (k : ∀ {t : TE}, PE X a t → PT X a (tB t)) : GT X W a (dTest da) := by
  refine PT.imp (k h) fun σ H Q ⟨B, F, env, ts, vs, R, q⟩ => ?_
  refine ⟨B, F, env, ts, vs, R, (q.bind).mono (fun x e1 q1 v H1 F1 R1 => ?_) fun _ _ _ _ z => z⟩
  obtain ⟨d, e, kk⟩ := q1.lift
  exact ⟨d, R1.bool e, kk H1 F1 (R1.drop rfl)⟩
theorem gt_val (h : GE X W a da) (he : ∀ whole, isTrue a X.env whole = (do let v ← whole; standAt a.pos; holding [v] (truthy v)) := by intro _; rfl) : GT X W a (dTest da) := gt_of h fun t => pt_val t he
theorem gt_cmp {op : CmpOp} {r : R2} {f : D → D → Option D} (ho : OpR X (compareOp op) r) (hf : OpS X.K X.mg r f) (ha : GE X W a da) (hb : GE X W b db) (hm : behindInMarks op b = false := by first | exact nomark _ | rfl)
    (h1 : ∀ y, f .un y = none := by intro y; first | rfl | (cases y <;> rfl)) (h2 : ∀ x, f x .un = none := by intro x; first | rfl | (cases x <;> rfl)) : GT X W (.Compare a [op] [b] pos) (dTest (dOp f da db)) := by
  refine PT.imp (pt_cmpR ho ha hb hm) fun σ H Q ⟨B, F, env, ts, vs, R, q⟩ => ?_
  refine op_imp (t := fun _ _ _ => True) hf h1 h2 (Q := fun x H' => ∃ k, x = .bl k ∧ Q k H') ⟨B, F, env, ts, vs, R, (q.bind).mono (fun x e1 q1 v H1 F1 R1 => ?_) fun _ _ _ _ z => z⟩
  obtain ⟨d, e, kk⟩ := q1.lift
  exact ⟨d, R1.bool e, kk H1 F1 (R1.drop rfl)⟩
theorem gt_not (ha : GT X W a dt) : GT X W (.UnaryOp .Not a pos) (dNot dt) := PT.imp (pt_not ha) fun σ H Q ⟨B, F, env, ts, vs, R, q⟩ => ⟨B, F, env, ts, vs, R, (q.bind).mono (fun x e1 q1 => q1) fun _ _ _ _ z => z⟩
theorem gw_and1 (ha : GT X W a dt) : GW X W (.BoolOp .And [a] pos) dt := pw_and1 ha
theorem gw_or1 (ha : GT X W a dt) : GW X W (.BoolOp .Or [a] pos) dt := pw_or1 ha
theorem and_imp {tt tu : TT} {σ : St} {H : Hp} {Q : Bool → Hp → Prop} (h : rdT X.K X.mg W (dAnd dt du) σ H Q) : tAnd (rdT X.K X.mg W dt) (rdT X.K X.mg W du) σ H Q := by
  obtain ⟨B, F, env, ts, vs, R, q⟩ := h
  refine ⟨B, F, env, ts, vs, R, (q.bind).mono (fun x e1 q1 H1 F1 R1 => ?_) fun _ _ _ _ z => z⟩
  cases x with
  | true => rw [if_pos rfl] at q1 ⊢; exact ⟨B, F1, e1, ts, vs, R1, q1⟩
  | false => rw [if_neg Bool.false_ne_true] at q1 ⊢; exact q1 H1 F1 R1
theorem or_imp {tt tu : TT} {σ : St} {H : Hp} {Q : Bool → Hp → Prop} (h : rdT X.K X.mg W (dOr dt du) σ H Q) : tOr (rdT X.K X.mg W dt) (rdT X.K X.mg W du) σ H Q := by
  obtain ⟨B, F, env, ts, vs, R, q⟩ := h
  refine ⟨B, F, env, ts, vs, R, (q.bind).mono (fun x e1 q1 H1 F1 R1 => ?_) fun _ _ _ _ z => z⟩
  cases x with
  | true => rw [if_pos rfl] at q1 ⊢; exact q1 H1 F1 R1
  | false => rw [if_neg Bool.false_ne_true] at q1 ⊢; exact ⟨B, F1, e1, ts, vs, R1, q1⟩
theorem gw_and {rest : List Expr} (ha : GT X W a dt) (hb : GW X W (.BoolOp .And (b :: rest) pos) du) : GW X W (.BoolOp .And (a :: b :: rest) pos) (dAnd dt du) := PW.imp (pw_and ha hb) fun σ H Q h => and_imp (tt := fun _ _ _ => True) (tu := fun _ _ _ => True) h
theorem gw_or {rest : List Expr} (ha : GT X W a dt) (hb : GW X W (.BoolOp .Or (b :: rest) pos) du) : GW X W (.BoolOp .Or (a :: b :: rest) pos) (dOr dt du) := PW.imp (pw_or ha hb) fun σ H Q h => or_imp (tt := fun _ _ _ => True) (tu := fun _ _ _ => True) h
theorem gt_w (h : GW X W a dt) : GT X W a dt := h.pt
/-- bools as values -/
def GB (X : Cx) (W : WX) (e : Expr) (den : Dn Bool) : Prop := GE X W e (dB den)
theorem gb_imp {σ : St} {H : Hp} {Q : VK} (h : rdE X.K X.mg W (dB dt) σ H Q) : rdT X.K X.mg W dt σ H (fun b H' => Q (.bl b) H') := by
  obtain ⟨B, F, env, ts, vs, R, q⟩ := h
  exact ⟨B, F, env, ts, vs, R, (q.bind).mono (fun x e1 q1 H1 F1 R1 => q1 (.bl x) H1 F1 (R1.push0 (Tm.of rp_bl))) fun _ _ _ _ z => z⟩
/-- an expression known to give a bool -/
theorem gb_val (h : GE X W a da) : GB X W a (dTest da) := by
  refine PE.imp h fun σ H Q ⟨B, F, env, ts, vs, R, q⟩ => ?_
  refine ⟨B, F, env, ts, vs, R, ((q.bind).bind).mono (fun x e1 q1 v H1 F1 R1 => ?_) fun _ _ _ _ z => z⟩
  obtain ⟨d, e, kk⟩ := ResP.lift q1
  have kk' : ∀ v H' F', RE X.K X.mg B σ H' F' e1 (ts ++ [.bl d]) (vs ++ [v]) → Q v H' := kk
  have hv := R1.bool e
  subst hv
  exact kk' (.bl d) H1 F1 ((R1.drop rfl).push0 (Tm.of rp_bl))
theorem pe_bool {dt : Dn Bool} (h : GB X W a dt) : PE X a (fun σ H Q => rdT X.K X.mg W dt σ H fun b H' => Q (.bl b) H') := PE.imp h fun σ H Q ⟨B, F, env, ts, vs, R, q⟩ => by
  refine ⟨B, F, env, ts, vs, R, ?_⟩
  unfold dB Dn.bind
  cases hq : dt env with
  | ok b e1 =>
    rw [hq] at q
    exact fun v H1 F1 R1 => by
      obtain ⟨S, rx⟩ := R1.last (d := .bl b) (fun z => nomatch z)
      have rx' : Rp X.K X.mg F1 H1 (.bl b) v S := rx
      unfold Rp at rx'
      rw [rx'.1]
      exact q H1 F1 (R1.drop rfl)
  | er c ns xs e1 => rw [hq] at q; exact q
  | no => rw [hq] at q; exact q.elim
theorem gb_one {op} (h : GB X W a dt) : GB X W (.BoolOp op [a] pos) dt := pe_one h
theorem gb_and {rest : List Expr} (ha : GB X W a dt) (hb : GB X W (.BoolOp .And (b :: rest) pos) du) : GB X W (.BoolOp .And (a :: b :: rest) pos) (dAnd dt du) := by
  refine PE.imp (pe_and (pe_bool ha) (pe_bool hb)) fun σ H Q h => ?_
  have h2 := and_imp (tt := fun _ _ _ => True) (tu := fun _ _ _ => True) (gb_imp h)
  obtain ⟨B, F, env, ts, vs, R, q⟩ := h2
  exact ⟨B, F, env, ts, vs, R, q.mono (fun x e1 q1 H1 F1 R1 => ⟨x, rfl, q1 H1 F1 R1⟩) fun _ _ _ _ z => z⟩
theorem gb_or {rest : List Expr} (ha : GB X W a dt) (hb : GB X W (.BoolOp .Or (b :: rest) pos) du) : GB X W (.BoolOp .Or (a :: b :: rest) pos) (dOr dt du) := by
  refine PE.imp (pe_or (pe_bool ha) (pe_bool hb)) fun σ H Q h => ?_
  have h2 := or_imp (tt := fun _ _ _ => True) (tu := fun _ _ _ => True) (gb_imp h)
  obtain ⟨B, F, env, ts, vs, R, q⟩ := h2
  exact ⟨B, F, env, ts, vs, R, q.mono (fun x e1 q1 H1 F1 R1 => ⟨x, rfl, q1 H1 F1 R1⟩) fun _ _ _ _ z => z⟩
theorem gb_not (ha : GB X W a dt) : GB X W (.UnaryOp .Not a pos) (dNot dt) := by
  refine PE.imp (pe_not (pe_bool ha)) fun σ H Q h => ?_
  obtain ⟨B, F, env, ts, vs, R, q⟩ := gb_imp h
  exact ⟨B, F, env, ts, vs, R, (q.bind).mono (fun x e1 q1 H1 F1 R1 => ⟨x, rfl, q1 H1 F1 R1⟩) fun _ _ _ _ z => z⟩
theorem ge_if (hc : GT X W c dt) (ha : GE X W a da) (hb : GE X W b db) : GE X W (.IfExp c a b pos) (dIf dt da db) := by
  refine PE.imp (pe_ifExp hc ha hb) fun σ H Q ⟨B, F, env, ts, vs, R, q⟩ => ?_
  refine ⟨B, F, env, ts, vs, R, (q.bind).mono (fun x e1 q1 H1 F1 R1 => ?_) fun _ _ _ _ z => z⟩
  cases x with
  | true => rw [if_pos rfl] at q1 ⊢; exact ⟨B, F1, e1, ts, vs, R1, q1⟩
  | false => rw [if_neg Bool.false_ne_true] at q1 ⊢; exact ⟨B, F1, e1, ts, vs, R1, q1⟩
/-! ### chains of two -/
theorem chain_imp {op op' : CmpOp} {r r' : R2} {f g : D → D → Option D} (hf : OpS X.K X.mg r f) (hg : OpS X.K X.mg r' g) (h1 : ∀ y, f .un y = none) (h2 : ∀ x, f x .un = none) (h3 : ∀ y, g .un y = none) (h4 : ∀ x, g x .un = none) {σ : St} {H : Hp} {Q : VK}
    (h : rdT X.K X.mg W (dChain f g da db dc) σ H (fun b H' => Q (.bl b) H')) : tChain r r' (rdE X.K X.mg W da) (rdE X.K X.mg W db) (rdE X.K X.mg W dc) σ H Q := by
  obtain ⟨B, F, env, ts, vs, R, q⟩ := h
  refine ⟨B, F, env, ts, vs, R, (q.bind).mono (fun x e1 q1 v H1 F1 R1 => ?_) fun _ _ _ _ z => z⟩
  refine ⟨B, F1, e1, ts ++ [x], vs ++ [v], R1, (q1.bind).mono (fun y e2 q2 u H2 F2 R2 => ?_) fun _ _ _ _ z => z.pop rfl⟩
  obtain ⟨k, e, q3⟩ := (ResP.bind q2).lift
  rw [List.append_assoc, List.append_assoc] at R2
  cases ef : f (rs e2 x) (rs e2 y) with
  | none => rw [ef] at e; cases e
  | some d =>
    rw [ef] at e
    obtain ⟨⟨Sx, rx⟩, Sy, ry⟩ := R2.last2 (fun z => by rw [z, h1] at ef; cases ef) (fun z => by rw [z, h2] at ef; cases ef)
    have hd : d = .bl k := by
      cases d with
      | bl c => cases e; rfl
      | _ => cases e
    subst hd
    refine hf B σ H2 F2 e2 (ts ++ [x, y]) (vs ++ [v, u]) _ _ v u Sx Sy (.bl k) _ R2 rx ry ef fun w H3 F3 R3 => ?_
    obtain ⟨S3, r3⟩ := R3.last (d := .bl k) (fun z => nomatch z)
    have r3' : Rp X.K X.mg F3 H3 (.bl k) w S3 := r3
    unfold Rp at r3'
    refine ⟨k, r3'.1, ?_⟩
    have R4 := R3.drop (us := [.bl k]) (ws := [w]) rfl
    cases k with
    | false =>
      rw [if_neg Bool.false_ne_true] at q3 ⊢
      exact q3 H3 F3 (R4.drop rfl)
    | true =>
      rw [if_pos rfl] at q3 ⊢
      refine ⟨B, F3, e2, ts ++ [x, y], vs ++ [v, u], R4, (ResP.bind q3).mono (fun z e3 q4 w4 H4 F4 R5 => ?_) fun _ _ _ _ z => z.pop rfl⟩
      obtain ⟨k2, ee, q5⟩ := q4.lift
      cases eg : g (rs e3 y) (rs e3 z) with
      | none => rw [eg] at ee; cases ee
      | some d2 =>
        rw [eg] at ee
        have R6 : RE X.K X.mg B σ H4 F4 e3 ((ts ++ [x]) ++ [y, z]) ((vs ++ [v]) ++ [u, w4]) := by
          have e5 : (ts ++ [x]) ++ [y, z] = (ts ++ [x, y]) ++ [z] := by simp
          have e6 : (vs ++ [v]) ++ [u, w4] = (vs ++ [v, u]) ++ [w4] := by simp
          rw [e5, e6]; exact R5
        obtain ⟨⟨Sy', ry'⟩, Sz, rz⟩ := R6.last2 (fun q => by rw [q, h3] at eg; cases eg) (fun q => by rw [q, h4] at eg; cases eg)
        have hd2 : d2 = .bl k2 := by
          cases d2 with
          | bl c => cases ee; rfl
          | _ => cases ee
        subst hd2
        have R7 : RE X.K X.mg B σ H4 F4 e3 ts vs := (R6.drop rfl).drop rfl
        refine hg B σ H4 F4 e3 ts vs _ _ u w4 Sy' Sz (.bl k2) _ R7 ry' rz eg fun w5 H5 F5 R8 => ?_
        obtain ⟨S8, r8⟩ := R8.last (d := .bl k2) (fun z => nomatch z)
        have r8' : Rp X.K X.mg F5 H5 (.bl k2) w5 S8 := r8
        unfold Rp at r8'
        rw [r8'.1]
        exact q5 H5 F5 (R8.drop rfl)
theorem gt_chain {op op' : CmpOp} {r r' : R2} {f g : D → D → Option D} (ho : OpR X (compareOp op) r) (hf : OpS X.K X.mg r f) (ho' : OpR X (compareOp op') r') (hg : OpS X.K X.mg r' g) (ha : GE X W a da) (hb : GE X W b db) (hc : GE X W c dc)
    (h1 : ∀ y, f .un y = none := by intro y; first | rfl | (cases y <;> rfl)) (h2 : ∀ x, f x .un = none := by intro x; first | rfl | (cases x <;> rfl)) (h3 : ∀ y, g .un y = none := by intro y; first | rfl | (cases y <;> rfl)) (h4 : ∀ x, g x .un = none := by intro x; first | rfl | (cases x <;> rfl)) (hm : lastMarks [op, op'] [b, c] = false := by with_unfolding_all rfl) :
    GT X W (.Compare a [op, op'] [b, c] pos) (dChain f g da db dc) := PT.imp (pt_chain ho ho' ha hb hc hm) fun σ H Q ⟨B, F, env, ts, vs, R, q⟩ =>
  chain_imp (op := op) (op' := op') hf hg h1 h2 h3 h4 (Q := fun x H' => ∃ k, x = .bl k ∧ Q k H') ⟨B, F, env, ts, vs, R, q.mono (fun b e1 q1 H1 F1 R1 => ⟨b, rfl, q1 H1 F1 R1⟩) fun _ _ _ _ z => z⟩
theorem gb_chain {op op' : CmpOp} {r r' : R2} {f g : D → D → Option D} (ho : OpR X (compareOp op) r) (hf : OpS X.K X.mg r f) (ho' : OpR X (compareOp op') r') (hg : OpS X.K X.mg r' g) (ha : GE X W a da) (hb : GE X W b db) (hc : GE X W c dc)
    (h1 : ∀ y, f .un y = none := by intro y; first | rfl | (cases y <;> rfl)) (h2 : ∀ x, f x .un = none := by intro x; first | rfl | (cases x <;> rfl)) (h3 : ∀ y, g .un y = none := by intro y; first | rfl | (cases y <;> rfl)) (h4 : ∀ x, g x .un = none := by intro x; first | rfl | (cases x <;> rfl)) (hm : lastMarks [op, op'] [b, c] = false := by with_unfolding_all rfl) :
    GB X W (.Compare a [op, op'] [b, c] pos) (dChain f g da db dc) := PE.imp (pe_chain ho ho' ha hb hc hm) fun σ H Q h => chain_imp (op := op) (op' := op') hf hg h1 h2 h3 h4 (gb_imp h)

/-! ### calls by values -/
theorem all_rp {K : PySem.W.Frag} {mg : Str → Option Value} {B : Bd} {σ : St} {F H : Hp} {env : List D} : ∀ {us : List D} {ws : List V} {ts : List D} {vs : List V}, us.length = ws.length → RE K mg B σ H F env (ts ++ us) (vs ++ ws) → (us.map (rs env)).any isUn = false → AllRp K mg F H (us.map (rs env)) ws
  | [], [], _, _, _, _, _ => by unfold AllRp; rfl
  | d :: us, w :: ws, ts, vs, hl, R, h => by
    rw [List.map_cons, List.any_cons, Bool.or_eq_false_iff] at h
    have R' : RE K mg B σ H F env ((ts ++ [d]) ++ us) ((vs ++ [w]) ++ ws) := by
      rw [List.append_assoc, List.append_assoc]
      exact R
    have hl' : us.length = ws.length := by simpa using hl
    unfold AllRp
    exact ⟨w, ws, rfl, (R'.drop hl').last (isUn_of h.1), all_rp hl' R' h.2⟩
  | [], _ :: _, _, _, h, _, _ => by cases h
  | _ :: _, [], _, _, h, _, _ => by cases h
theorem ge_callB {x : Str} {id : String} {r : List V → Hp → VK → Prop} {f : List D → Option D} (hc : CallR X (.builtin id) r) (hf : CaS X.K X.mg r f) (hm : X.mg x = none) (hv : bootBuiltins x = some (.builtin id)) (ha : GA X W (e :: es) dr) (hg : Gl X x := by rfl) (hn : x ≠ "__name__" := by decide) (hdb : (x == ("__debug__" : Str)) = false := by decide)
    (he : starEach (e :: es) X.env = (false, eval e X.env) :: starEach es X.env := by rfl) (hpl : (backTo pos (starEach es X.env)).any (·.1) = false := by rfl) : GE X W (.Call (.Name x p) (e :: es) [] pos) (dCall f dr) := by
  refine PE.imp (pe_callB hc hg hm hv ha hn hdb he hpl) fun σ H Q ⟨B, F, env, ts, vs, R, q⟩ => ?_
  refine ⟨B, F, env, ts, vs, R, (q.bind).mono (fun xs e1 h1 ws H1 F1 hl R1 => ?_) fun _ _ _ _ z => z⟩
  cases hu : (xs.map (rs e1)).any isUn with
  | true => rw [hu, if_pos rfl] at h1; exact h1.elim
  | false =>
    rw [hu, if_neg Bool.false_ne_true] at h1
    obtain ⟨d, e, k⟩ := h1.lift
    exact hf B σ H1 F1 e1 ts vs _ ws d Q (R1.drop hl) (all_rp hl R1 hu) e k
theorem ge_callTy {x : Str} {T : String} {r : List V → Hp → VK → Prop} {f : List D → Option D} (hc : CallR X (.type T) r) (hf : CaS X.K X.mg r f) (hm : X.mg x = none) (hv : bootBuiltins x = some (.type T)) (ha : GA X W (e :: es) dr) (hg : Gl X x := by rfl) (hn : x ≠ "__name__" := by decide) (hdb : (x == ("__debug__" : Str)) = false := by decide)
    (he : starEach (e :: es) X.env = (false, eval e X.env) :: starEach es X.env := by rfl) (hpl : (backTo pos (starEach es X.env)).any (·.1) = false := by rfl) : GE X W (.Call (.Name x p) (e :: es) [] pos) (dCall f dr) := by
  refine PE.imp (pe_callTy hc hg hm hv ha hn hdb he hpl) fun σ H Q ⟨B, F, env, ts, vs, R, q⟩ => ?_
  refine ⟨B, F, env, ts, vs, R, (q.bind).mono (fun xs e1 h1 ws H1 F1 hl R1 => ?_) fun _ _ _ _ z => z⟩
  cases hu : (xs.map (rs e1)).any isUn with
  | true => rw [hu, if_pos rfl] at h1; exact h1.elim
  | false =>
    rw [hu, if_neg Bool.false_ne_true] at h1
    obtain ⟨d, e, k⟩ := h1.lift
    exact hf B σ H1 F1 e1 ts vs _ ws d Q (R1.drop hl) (all_rp hl R1 hu) e k
/-- a subscript by values -/
theorem ge_ix {r : R2} {f : D → D → Option D} (hr : IxR X r) (hf : OpS X.K X.mg r f) (ha : GE X W a da) (hb : GE X W b db) (hs : PlainIx b := by exact fun _ _ => rfl)
    (h1 : ∀ y, f .un y = none := by intro y; first | rfl | (cases y <;> rfl)) (h2 : ∀ x, f x .un = none := by intro x; first | rfl | (cases x <;> rfl)) : GE X W (.Subscript a b pos) (dOp f da db) :=
  PE.imp (pe_ix hr ha hb hs) fun σ H Q h => op_imp (t := fun _ _ _ => True) hf h1 h2 h
end
end DL
set_option Elab.async false
set_option linter.all false
set_option maxRecDepth 100000
set_option maxHeartbeats 2000000
/-! DLd: statements, loops, the call of a def. -/
namespace DL
open PySem L2

inductive Out where
  | nx (env : List D)
  | rt (d : D) (env : List D)
  | bk (env : List D)
  | ct (env : List D)
  | er (c : Str) (ns : List Str) (xs : List D) (env : List D)
  | no
abbrev Sn := List D → Out

section
variable (K : PySem.W.Frag) (mg : Str → Option Value) (W : WX)
/-- ts, vs: what loops around hold -/
def OutP (B : Bd) (ts : List D) (vs : List V) (T : Ends) (r : Out) : Prop := match r with
  | .nx e => ∀ σ' H' F', RE K mg B σ' H' F' e ts vs → T.nx σ' H'
  | .rt d e => isSl d = false ∧ ∀ v σ' H' F', RE K mg B σ' H' F' e (ts ++ [d]) (vs ++ [v]) → T.rt v H'
  | .bk e => ∀ σ' H' F', RE K mg B σ' H' F' e ts vs → T.bk σ' H'
  | .ct e => ∀ σ' H' F', RE K mg B σ' H' F' e ts vs → T.ct σ' H'
  | .er c ns xs e => ∀ cls dx σ' H' F', RE K mg B σ' H' F' e ts vs → ErrIs K mg F' H' c ns xs cls dx → W cls dx σ' H'
  | .no => False
/-- P: the slots that are never stored (parameters) -/
def rdS (P : List Nat) (den : Sn) : TS := fun T σ H => ∃ B F env ts vs, B.pins.map (·.1) = P ∧ noAl ts ∧ RE K mg B σ H F env ts vs ∧ OutP K mg W B ts vs T (den env)
end
abbrev GS (X : Cx) (W : WX) (P : List Nat) (st : Stmt) (den : Sn) : Prop := PS X st (rdS X.K X.mg W P den)
abbrev GSs (X : Cx) (W : WX) (P : List Nat) (st : List Stmt) (den : Sn) : Prop := PSs X st (rdS X.K X.mg W P den)
theorem PS.imp {X : Cx} {e : Stmt} {t t' : TS} (h : PS X e t) (k : ∀ T σ H, t' T σ H → t T σ H) : PS X e t' := ⟨fun pins s σ H T I q => h.run pins s σ H T I (k T σ H q)⟩
theorem PSs.imp {X : Cx} {e : List Stmt} {t t' : TS} (h : PSs X e t) (k : ∀ T σ H, t' T σ H → t T σ H) : PSs X e t' := ⟨fun pins s σ H T I q => h.run pins s σ H T I (k T σ H q)⟩

/-! ### denotations -/
@[simp] def Res.out {α : Type} (r : Res α) (f : α → Sn) : Out := match r with
  | .ok a e => f a e
  | .er c ns xs e => .er c ns xs e
  | .no => .no
@[simp] def Out.seq (r : Out) (f : Sn) : Out := match r with
  | .nx e => f e
  | r => r
@[simp] def nSkip : Sn := fun env => .nx env
@[simp] def nSeq (a b : Sn) : Sn := fun env => (a env).seq b
@[simp] def nAsg (i : Nat) (a : Dn D) : Sn := fun env => (dU a env).out fun d e => .nx (e.set i d)
@[simp] def nDrop (a : Dn D) : Sn := fun env => (a env).out fun _ e => .nx e
/-- what is returned is handed on: an alias with all that it owns -/
def retD : D → Sn := fun d e => match d with
  | .sl i => if isUn (e.getD i .un) || isSl (e.getD i .un) then .no else .rt (e.getD i .un) (e.set i .un)
  | d => .rt d e
@[simp] def nRet (a : Dn D) : Sn := fun env => (a env).out retD
@[simp] def nRetN : Sn := fun env => .rt .non env
@[simp] def nIf (c : Dn Bool) (a b : Sn) : Sn := fun env => (c env).out fun k => if k then a else b
@[simp] def nBreak : Sn := fun env => .bk env
@[simp] def nCont : Sn := fun env => .ct env

section
variable {X : Cx} {W : WX} {P : List Nat} {e c : Expr} {st : Stmt} {rest p q : List Stmt} {pos pos' : Pos} {da : Dn D} {dt : Dn Bool} {a b : Sn}

theorem ResP.out {α : Type} {K : PySem.W.Frag} {mg : Str → Option Value} {B : Bd} {ts : List D} {vs : List V} {T : Ends} {r : Res α} {f : α → Sn} (h : OutP K mg W B ts vs T (r.out f)) {σ : St} : ResP r (fun a e => OutP K mg W B ts vs T (f a e)) (ErrK K mg W B σ ts vs) := by
  cases r with
  | ok a e => exact h
  | er c ns xs e => exact fun cls dx H' F' R q => h cls dx σ H' F' R q
  | no => exact h.elim
theorem gss_nil : GSs X W P [] nSkip := PSs.imp pss_nil fun T σ H ⟨B, F, env, ts, vs, _, na, R, q⟩ => q σ H F R
theorem gss_cons (h1 : GS X W P st a) (h2 : GSs X W P rest b) : GSs X W P (st :: rest) (nSeq a b) := by
  refine PSs.imp (pss_cons h1 h2) fun T σ H ⟨B, F, env, ts, vs, hp, na, R, q⟩ => ⟨B, F, env, ts, vs, hp, na, R, ?_⟩
  unfold nSeq at q
  cases e : a env with
  | nx e1 => rw [e] at q; exact fun σ' H' F' R' => ⟨B, F', e1, ts, vs, hp, na, R', q⟩
  | rt d e1 => rw [e] at q; exact q
  | bk e1 => rw [e] at q; exact q
  | ct e1 => rw [e] at q; exact q
  | er c ns xs e1 => rw [e] at q; exact q
  | no => rw [e] at q; exact q
theorem gss_one (h1 : GS X W P st a) : GSs X W P [st] a := PSs.imp (pss_one h1) fun T σ H h => h
theorem gs_pass : GS X W P (.Pass pos) nSkip := PS.imp ps_pass fun T σ H ⟨B, F, env, ts, vs, _, na, R, q⟩ => q σ H F R
theorem gs_break : GS X W P (.Break pos) nBreak := PS.imp ps_break fun T σ H ⟨B, F, env, ts, vs, _, na, R, q⟩ => q σ H F R
theorem gs_cont : GS X W P (.Continue pos) nCont := PS.imp ps_continue fun T σ H ⟨B, F, env, ts, vs, _, na, R, q⟩ => q σ H F R
theorem gs_drop (h : GE X W e da) (hs : swapsWith e none pos.line X.env = pure false := by rfl) : GS X W P (.Expr e pos) (nDrop da) := by
  refine PS.imp (ps_expr h hs) fun T σ H ⟨B, F, env, ts, vs, hp, na, R, q⟩ => ?_
  refine ⟨B, F, env, ts, vs, R, (ResP.out q).mono (fun d e1 h1 v H1 F1 R1 => ?_) fun _ _ _ _ z => z⟩
  exact h1 σ H1 F1 (R1.drop rfl)
theorem pin_ne {B : Bd} {i : Nat} (h : B.pins.map (·.1) = P) (hi : P.contains i = false) : ∀ p ∈ B.pins, p.1 ≠ i := fun p hp z => by
  have : i ∈ P := by rw [← h, ← z]; exact List.mem_map_of_mem hp
  rw [List.contains_iff_mem.mpr this] at hi
  cases hi
theorem gs_set (i : Nat) {x : Str} (h : GEU X W e (dU da)) (hN : X.N.Nodup) (hi : X.N[i]? = some x := by rfl) (hx : Loc X.env.scope x := by first | exact Or.inl rfl | exact Or.inr rfl) (hp : P.contains i = false := by rfl)
    (hs : swapsWith e (some (.Name x pos')) pos.line X.env = pure false := by rfl) (hf : X.fn x = true ∨ X.env.scope.names.lookup x = some .local := by first | exact .inl rfl | exact .inr rfl) :
    GS X W P (.Assign [.Name x pos'] e pos) (nAsg i da) := by
  refine PS.imp (ps_set hN hi hx h hs hf) fun T σ H ⟨B, F, env, ts, vs, hpp, na, R, q⟩ => ?_
  refine ⟨B, F, env, ts, vs, R, (ResP.out q).mono (fun d e1 h1 v H1 F1 hd R1 => ?_) fun _ _ _ _ z => z⟩
  exact h1 _ H1 F1 (R1.store (pin_ne hpp hp) hd na)
theorem gs_if (hc : GT X W c dt) (ha : GSs X W P p a) (hb : GSs X W P q b) : GS X W P (.If c p q pos) (nIf dt a b) := by
  refine PS.imp (ps_if hc ha hb) fun T σ H ⟨B, F, env, ts, vs, hpp, na, R, q⟩ => ?_
  refine ⟨B, F, env, ts, vs, R, (ResP.out q).mono (fun k e1 h1 H1 F1 R1 => ?_) fun _ _ _ _ z => z⟩
  cases k with
  | true => rw [if_pos rfl] at h1 ⊢; exact ⟨B, F1, e1, ts, vs, hpp, na, R1, h1⟩
  | false => rw [if_neg Bool.false_ne_true] at h1 ⊢; exact ⟨B, F1, e1, ts, vs, hpp, na, R1, h1⟩
theorem gs_ret (h : GE X W e da) : GS X W P (.Return (some e) pos) (nRet da) := by
  refine PS.imp (ps_ret h) fun T σ H ⟨B, F, env, ts, vs, hpp, na, R, q⟩ => ?_
  refine ⟨B, F, env, ts, vs, R, (ResP.out q).mono (fun d e1 h1 v H1 F1 R1 => ?_) fun _ _ _ _ z => z⟩
  cases d with
  | sl i =>
    unfold retD at h1
    dsimp only at h1
    cases hu : isUn (e1.getD i .un) with
    | true => rw [hu, Bool.true_or, if_pos rfl] at h1; exact h1.elim
    | false =>
      rw [hu, Bool.false_or] at h1
      cases hs : isSl (e1.getD i .un) with
      | true => rw [hs, if_pos rfl] at h1; exact h1.elim
      | false =>
      rw [hs, if_neg Bool.false_ne_true] at h1
      refine h1.2 v σ H1 F1 ?_
      obtain ⟨ow, r⟩ := R1
      have tl := r.tlen
      simp only [List.length_append, List.length_cons, List.length_nil] at tl
      have hl : ts.length = vs.length := by omega
      obtain ⟨hv, h0⟩ : σ[i]? = some (some v) ∧ _ := r.temp ts.length (.sl i) v (by simp) (by rw [hl]; simp)
      rw [List.getD_eq_getElem?_getD] at hu ⊢
      cases ee : e1[i]? with
      | none => rw [ee] at hu; cases hu
      | some x =>
        rw [ee] at hu
        simp only [Option.getD_some] at hu ⊢
        obtain ⟨v', ev, rp⟩ := r.slot i x ee (isUn_of hu)
        rw [hv] at ev
        cases ev
        have r1 := (r.drop (us := [.sl i]) (ws := [v]) rfl).unslot i
        have r2 := r1.push (d := x) (v := v) (S := ow (.s i)) (Tm.of rp) (fun a ha => ⟨fun o z => ?_, r.fno _ a ha, fun z => (r.fr a z).2.2.2 _ ha⟩) (r.nod _)
        · exact ⟨_, r2⟩
        · by_cases qq : o = .s i
          · subst qq; rw [offS_in] at z; exact absurd z List.not_mem_nil
          · rw [offS_ne qq] at z
            exact qq (r.uniq _ _ a (mem_low z) ha)
  | _ => exact h1.2 v σ H1 F1 R1
theorem gs_retN : GS X W P (.Return none pos) nRetN := PS.imp ps_retN fun T σ H ⟨B, F, env, ts, vs, _, na, R, q⟩ => q.2 .non σ H F (R.push0 (Tm.of rp_non))
end

/-! ### loops -/
def isFz (xs : List D) : Bool := frozL xs
/-- a for over what is known at its start: tg stores an item -/
def forD (tg : D → List D → Option (List D)) (body : Sn) : List D → Sn
  | [], env => .nx env
  | x :: xs, env => match tg x env with
    | none => .no
    | some e1 => match body e1 with
      | .nx e2 => forD tg body xs e2
      | .ct e2 => forD tg body xs e2
      | .bk e2 => .nx e2
      | r => r
/-- a while of at most n turns -/
def whileN (c : Dn Bool) (body : Sn) : Nat → Sn
  | 0, _ => .no
  | n + 1, env => (c env).out fun k => if k then fun e1 => match body e1 with
      | .nx e2 => whileN c body n e2
      | .ct e2 => whileN c body n e2
      | .bk e2 => .nx e2
      | r => r
    else .nx
open Classical in
noncomputable def whileD (c : Dn Bool) (body : Sn) : Sn := fun env => if h : ∃ n, whileN c body n env ≠ .no then whileN c body h.choose env else .no

section
variable {c : Dn Bool} {body : Sn}
theorem whileN_succ : ∀ {n : Nat} {env : List D}, whileN c body n env ≠ .no → whileN c body (n + 1) env = whileN c body n env
  | 0, env, h => absurd rfl h
  | n + 1, env, h => by
    unfold whileN at h ⊢
    cases q : c env with
    | er _ _ _ _ => rfl
    | no => rfl
    | ok k e1 =>
      rw [q] at h
      unfold Res.out at h ⊢
      try dsimp only at h ⊢
      cases k with
      | false => rfl
      | true =>
        rw [if_pos rfl] at h ⊢
        try rw [if_pos rfl]
        try dsimp only at h ⊢
        cases b : body e1 with
        | nx e2 => rw [b] at h; exact whileN_succ h
        | ct e2 => rw [b] at h; exact whileN_succ h
        | bk e2 => rfl
        | rt d e2 => rfl
        | er _ _ _ _ => rfl
        | no => rfl
theorem whileN_le {n m : Nat} {env : List D} (h : whileN c body n env ≠ .no) (hm : n ≤ m) : whileN c body m env = whileN c body n env := by
  induction m with
  | zero => rw [Nat.le_zero.mp hm]
  | succ m ih =>
    rcases Nat.lt_or_eq_of_le hm with l | e
    · have i := ih (Nat.le_of_lt_succ l)
      rw [whileN_succ (by rw [i]; exact h), i]
    · rw [e]
theorem whileD_eq {n : Nat} {env : List D} (h : whileN c body n env ≠ .no) : whileD c body env = whileN c body n env := by
  unfold whileD
  have hx : ∃ n, whileN c body n env ≠ .no := ⟨n, h⟩
  rw [dif_pos hx]
  rcases Nat.le_total n hx.choose with l | l
  · exact whileN_le h l
  · exact (whileN_le hx.choose_spec l).symm
/-- one turn -/
theorem whileD_step {env : List D} : whileD c body env = (c env).out fun k => if k then fun e1 => match body e1 with
      | .nx e2 => whileD c body e2
      | .ct e2 => whileD c body e2
      | .bk e2 => .nx e2
      | r => r
    else .nx := by
  have key : ∀ n, whileN c body (n + 1) env ≠ .no → whileD c body env = (c env).out fun k => if k then fun e1 => match body e1 with
      | .nx e2 => whileD c body e2
      | .ct e2 => whileD c body e2
      | .bk e2 => .nx e2
      | r => r
    else .nx := fun n h => by
    rw [whileD_eq h]
    unfold whileN at h ⊢
    cases q : c env with
    | er _ _ _ _ => rfl
    | no => rfl
    | ok k e1 =>
      rw [q] at h
      unfold Res.out at h ⊢
      try dsimp only at h ⊢
      cases k with
      | false => rfl
      | true =>
        rw [if_pos rfl] at h ⊢
        try rw [if_pos rfl]
        try dsimp only at h ⊢
        cases b : body e1 with
        | nx e2 => rw [b] at h; exact (whileD_eq h).symm
        | ct e2 => rw [b] at h; exact (whileD_eq h).symm
        | bk e2 => rfl
        | rt d e2 => rfl
        | er _ _ _ _ => rfl
        | no => rfl
  by_cases hx : ∃ n, whileN c body n env ≠ .no
  · obtain ⟨n, hn⟩ := hx
    cases n with
    | zero => exact absurd rfl hn
    | succ n => exact key n hn
  · have e0 : whileD c body env = .no := by unfold whileD; rw [dif_neg hx]
    rw [e0]
    -- every turn ends in no
    cases q : c env with
    | er c' ns xs e1 =>
      exfalso; apply hx
      exact ⟨1, by unfold whileN; rw [q]; intro z; cases z⟩
    | no => rfl
    | ok k e1 =>
      unfold Res.out
      dsimp only
      cases k with
      | false =>
        exfalso; apply hx
        exact ⟨1, by unfold whileN; rw [q]; intro z; cases z⟩
      | true =>
        rw [if_pos rfl]
        have go : ∀ e2, (∀ n, whileN c body n e2 ≠ .no → ∃ m, whileN c body m env ≠ .no) → whileD c body e2 = .no := fun e2 hh => by
          unfold whileD
          rw [dif_neg fun ⟨n, hn⟩ => hx (hh n hn)]
        cases b : body e1 with
        | nx e2 => exact (go e2 fun n hn => ⟨n + 1, by unfold whileN; rw [q]; unfold Res.out; dsimp only; rw [if_pos rfl, b]; exact hn⟩).symm
        | ct e2 => exact (go e2 fun n hn => ⟨n + 1, by unfold whileN; rw [q]; unfold Res.out; dsimp only; rw [if_pos rfl, b]; exact hn⟩).symm
        | bk e2 => exfalso; apply hx; exact ⟨1, by unfold whileN; rw [q]; unfold Res.out; dsimp only; rw [if_pos rfl, b]; intro z; cases z⟩
        | rt d e2 => exfalso; apply hx; exact ⟨1, by unfold whileN; rw [q]; unfold Res.out; dsimp only; rw [if_pos rfl, b]; intro z; cases z⟩
        | er _ _ _ _ => exfalso; apply hx; exact ⟨1, by unfold whileN; rw [q]; unfold Res.out; dsimp only; rw [if_pos rfl, b]; intro z; cases z⟩
        | no => rfl
end

section
variable {X : Cx} {W : WX} {P : List Nat} {e c tg iter : Expr} {body : List Stmt} {pos : Pos} {dt : Dn Bool} {b : Sn}
theorem gs_while (hp : PassesOwn (model X.prog X.w) X.A X.env X.xe) (hc : GT X W c dt) (hb : GSs X W P body b) : GS X W P (.While c body [] pos) (whileD dt b) := by
  refine PS.imp (ps_while hp hc hb) fun T σ H ⟨B, F, env, ts, vs, hpp, na, R, q⟩ => ?_
  by_cases hx : ∃ n, whileN dt b n env ≠ .no
  · obtain ⟨n, hn⟩ := hx
    rw [whileD_eq hn] at q
    refine ⟨fun m σ' H' => ∃ F' env', RE X.K X.mg B σ' H' F' env' ts vs ∧ OutP X.K X.mg W B ts vs T (whileN dt b m env'), ⟨n, F, env, R, q⟩, fun m σ1 H1 ⟨F1, e1, R1, q1⟩ => ?_⟩
    cases m with
    | zero => exact q1.elim
    | succ m =>
      unfold whileN at q1
      refine ⟨B, F1, e1, ts, vs, R1, (ResP.out q1).mono (fun k e2 h2 H2 F2 R2 => ?_) fun _ _ _ _ z => z⟩
      cases k with
      | false =>
        rw [if_neg Bool.false_ne_true] at h2 ⊢
        exact h2 σ1 H2 F2 R2
      | true =>
        rw [if_pos rfl] at h2 ⊢
        refine ⟨fun σ' H' => ∃ F' env', RE X.K X.mg B σ' H' F' env' ts vs ∧ OutP X.K X.mg W B ts vs T (whileN dt b m env'), fun σ' H' z => ⟨m, Nat.lt_succ_self m, z⟩, B, F2, e2, ts, vs, hpp, na, R2, ?_⟩
        try dsimp only at h2
        cases bb : b e2 with
        | nx e3 => rw [bb] at h2; exact fun σ' H' F' R' => ⟨F', e3, R', h2⟩
        | ct e3 => rw [bb] at h2; exact fun σ' H' F' R' => ⟨F', e3, R', h2⟩
        | bk e3 => rw [bb] at h2; exact h2
        | rt d e3 => rw [bb] at h2; exact h2
        | er _ _ _ _ => rw [bb] at h2; exact h2
        | no => rw [bb] at h2; exact h2.elim
  · have e0 : whileD dt b env = .no := by unfold whileD; rw [dif_neg hx]
    rw [e0] at q
    exact q.elim

/-- an iterator that gives the items, one by one, while us stand for ws -/
def ItOK (K : PySem.W.Frag) (mg : Str → Option Value) (J : It) (us : List D) (ws : List V) (items : List D) : Prop :=
  ∀ (B : Bd) (σ : St) (H F : Hp) (env ts ms : List D) (vs ns : List V) (k : Nat), ms.length = ns.length → RE K mg B σ H F env (ts ++ us ++ ms) (vs ++ ws ++ ns) →
    (∀ x, items[k]? = some x → J.go k H ∧ ∀ v H1, J.yld k H v H1 → ∃ F2, RE K mg B σ H1 F2 env (ts ++ us ++ ms ++ [x]) (vs ++ ws ++ ns ++ [v])) ∧ (items.length ≤ k → J.stop k H)
/-- what is walked: what must stand meanwhile, the items -/
def rdI (K : PySem.W.Frag) (mg : Str → Option Value) (W : WX) (den : Dn (List D × List D)) : TI := fun σ H R => ∃ B F env ts vs, RE K mg B σ H F env ts vs ∧
  ResP (den env) (fun xs e => ∀ J ws H' F', xs.1.length = ws.length → noAl xs.1 → noAl xs.2 → RE K mg B σ H' F' e (ts ++ xs.1) (vs ++ ws) → ItOK K mg J xs.1 ws xs.2 → R J H') (ErrK K mg W B σ ts vs)
/-- the slots outside T are as they were -/
def SameS (T : List Nat) (σ σ' : St) : Prop := σ'.length = σ.length ∧ ∀ j, j ∉ T → σ'[j]? = σ[j]?
/-- a target, by trees; T: its slots -/
def rdG (K : PySem.W.Frag) (mg : Str → Option Value) (P T : List Nat) (tg : D → List D → Option (List D)) : TG := fun v σ H Q => ∃ B F env ts vs d e1, B.pins.map (·.1) = P ∧ noAl ts ∧ RE K mg B σ H F env (ts ++ [d]) (vs ++ [v]) ∧ (∀ i, d ≠ .sl i) ∧ tg d env = some e1 ∧ ∀ σ' H' F', SameS T σ σ' → RE K mg B σ' H' F' e1 ts vs → Q σ' H'
abbrev GI (X : Cx) (W : WX) (tg iter : Expr) (den : Dn (List D × List D)) : Prop := PI X tg iter (rdI X.K X.mg W den)
abbrev GG (X : Cx) (P T : List Nat) (tg : Expr) (g : D → List D → Option (List D)) : Prop := PG X tg (rdG X.K X.mg P T g)
theorem PI.imp {X : Cx} {tg iter : Expr} {t t' : TI} (h : PI X tg iter t) (k : ∀ σ H R, t' σ H R → t σ H R) : PI X tg iter t' := ⟨fun pins s σ H R I q => h.run pins s σ H R I (k σ H R q)⟩
theorem PG.imp {X : Cx} {tg : Expr} {t t' : TG} (h : PG X tg t) (k : ∀ v σ H Q, t' v σ H Q → t v σ H Q) : PG X tg t' := ⟨fun pins s σ H v u Q I r q => h.run pins s σ H v u Q I r (k v σ H Q q)⟩

@[simp] def nFor (it : Dn (List D × List D)) (tg : D → List D → Option (List D)) (body : Sn) : Sn := fun env => (it env).out fun xs => forD tg body xs.2
theorem gs_for {it : Dn (List D × List D)} {Tg : List Nat} {g : D → List D → Option (List D)} (hp : PassesOwn (model X.prog X.w) X.A X.env X.xe) (hc : X.calm = true) (hi : GI X W tg iter it) (hg : GG X P Tg tg g) (hb : GSs X W P body b)
    (hs : ∀ x, foldedSetIterable iter X.env x = pure x := by intro _; rfl) : GS X W P (.For tg iter body [] pos) (nFor it g b) := by
  refine PS.imp (ps_for hp hc hi hg hb hs) fun T σ H ⟨B, F, env, ts, vs, hpp, na, R, q⟩ => ?_
  refine ⟨B, F, env, ts, vs, R, (ResP.out q).mono (fun xs e1 h1 J ws H1 F1 hl n1 n2 R1 IT => ?_) fun _ _ _ _ z => z⟩
  have nal : noAl (ts ++ xs.1) := fun d hd => (List.mem_append.mp hd).elim (na d) (n1 d)
  refine ⟨fun i m σ' H' => m = xs.2.length - i ∧ i ≤ xs.2.length ∧ ∃ F' env', RE X.K X.mg B σ' H' F' env' (ts ++ xs.1) (vs ++ ws) ∧ OutP X.K X.mg W B ts vs T (forD g b (xs.2.drop i) env'), ⟨_, rfl, Nat.zero_le _, F1, e1, R1, h1⟩, ?_⟩
  rintro i m σ2 H2 ⟨rfl, hi2, F2, e2, R2, q2⟩
  by_cases hlt : i < xs.2.length
  · right
    have hx : xs.2[i]? = some xs.2[i] := by simp [hlt]
    have R2' : RE X.K X.mg B σ2 H2 F2 e2 (ts ++ xs.1 ++ []) (vs ++ ws ++ []) := by rw [List.append_nil, List.append_nil]; exact R2
    obtain ⟨go, yl⟩ := (IT B σ2 H2 F2 e2 ts [] vs [] i rfl R2').1 _ hx
    rw [List.append_nil, List.append_nil] at yl
    rw [List.drop_eq_getElem_cons hlt] at q2
    unfold forD at q2
    refine ⟨go, fun σ' H' => i + 1 ≤ xs.2.length ∧ ∃ F' env', RE X.K X.mg B σ' H' F' env' (ts ++ xs.1) (vs ++ ws) ∧ OutP X.K X.mg W B ts vs T (forD g b (xs.2.drop (i + 1)) env'), fun σ' H' z => ⟨xs.2.length - (i + 1), by omega, rfl, z.1, z.2⟩, fun v H3 y => ?_⟩
    obtain ⟨F3, R3⟩ := yl v H3 y
    cases eg : g xs.2[i] e2 with
    | none => rw [eg] at q2; exact q2.elim
    | some e3 =>
      rw [eg] at q2
      dsimp only at q2
      refine ⟨B, F3, e2, ts ++ xs.1, vs ++ ws, xs.2[i], e3, hpp, nal, R3, n2 _ (List.getElem_mem hlt), eg, fun σ4 H4 F4 _ R4 => ?_⟩
      refine ⟨B, F4, e3, ts ++ xs.1, vs ++ ws, hpp, nal, R4, ?_⟩
      have dr : ∀ {σ' H' F' e'}, RE X.K X.mg B σ' H' F' e' (ts ++ xs.1) (vs ++ ws) → RE X.K X.mg B σ' H' F' e' ts vs := fun z => z.drop hl
      cases bb : b e3 with
      | nx e4 => rw [bb] at q2; exact fun σ' H' F' R' => ⟨hlt, F', e4, R', q2⟩
      | ct e4 => rw [bb] at q2; exact fun σ' H' F' R' => ⟨hlt, F', e4, R', q2⟩
      | bk e4 => rw [bb] at q2; exact fun σ' H' F' R' => q2 σ' H' F' (dr R')
      | rt d e4 =>
        rw [bb] at q2
        exact ⟨q2.1, fun v' σ' H' F' R' => q2.2 v' σ' H' F' (R'.dropMid hl fun j z => by have z2 := q2.1; rw [z] at z2; cases z2)⟩
      | er _ _ _ _ => rw [bb] at q2; exact fun cls dx σ' H' F' R' z => q2 cls dx σ' H' F' (dr R') z
      | no => rw [bb] at q2; exact q2.elim
  · left
    have hi3 : i = xs.2.length := by omega
    subst hi3
    rw [List.drop_length] at q2
    exact ⟨(IT B σ2 H2 F2 e2 ts [] vs [] _ rfl (by rw [List.append_nil, List.append_nil]; exact R2)).2 (Nat.le_refl _), q2 σ2 H2 F2 (R2.drop hl)⟩
end
end DL
set_option Elab.async false
set_option linter.all false
set_option maxRecDepth 100000
set_option maxHeartbeats 2000000
/-! DLr: the promise of a def where no repr is under way (FnG): the def, its call, the law's end; repr. -/
namespace DL
open PySem L2
open PyProof.Rows (envOfC IntsAre AllBare)

structure FnG (P : Program) (w : World) (K : PySem.W.Frag) (mg : Str → Option Value) (base : Heap) (C : CXT) (k : Nat) (fa : Addr) (fd : FuncData) (ps : List Str) (sp : Sp) : Prop where
  len : ∀ vs H Q E, sp vs H Q E → vs.length = ps.length
  run : ∀ (A : Around) (fr : List Env) (s : Shared) (H : Hp) (ar : Args) (us : List Value) (vs : List V) (Q : VK) (E : XK), Room k A → A.guards = some [] → Env0 P w K mg base A fr s H → BindsTo s fd ar (ps.zip us) → Vals vs us →
    sp vs H Q E → codeAny (model P w) A (.call (.ref fa) ar) (CR C fr P w H s Q E) s
section
variable {P : Program} {w : World} {K : PySem.W.Frag} {mg : Str → Option Value} {base : Heap} {C : CXT} {k : Nat} {fa : Addr} {fd : FuncData} {ps : List Str} {sp : Sp}
theorem FnG.of (F : FnOk P w K mg base C k fa fd ps sp) : FnG P w K mg base C k fa fd ps sp :=
  ⟨F.len, fun A fr s H ar us vs Q E hr _ e0 hb hv hs => F.run A fr s H ar us vs Q E hr e0 hb hv hs⟩
theorem FnG.mono {j : Nat} (F : FnG P w K mg base C j fa fd ps sp) (h : j ≤ k) : FnG P w K mg base C k fa fd ps sp :=
  ⟨F.len, fun A fr s H ar us vs Q E hr hg e0 hb hv hs => F.run A fr s H ar us vs Q E (hr.mono h) hg e0 hb hv hs⟩
/-- a def of the text -/
theorem fnG_of {x qual : Str} {st : Stmt} {N : List Str} (F : Fun K x qual st fa fd) (S : FnScope N ps (defScope st)) (hlen : ∀ vs H Q E, sp vs H Q E → vs.length = ps.length)
    (hb : ∀ (cdv : Value) (A : Around) (fr : List Env) (s : Shared) (H : Hp) (vs : List V) (Q : VK) (E : XK), Room k (A.deeper (envOfC qual (defScope st) s.heap.objs.size fa cdv)) → A.guards = some [] → sp vs H Q E →
      ∃ t, PSs (cxOf C P w K mg base N qual (defScope st) fa cdv A fr s H E) (defBody st) t ∧ t ⟨fun _ H' => Q .non H', Q, fun _ _ => False, fun _ _ => False⟩ (start N vs) H) : FnG P w K mg base C (k + 1) fa fd ps sp := by
  obtain ⟨oc, od, kV, doc, pm, an, cdv, ct, osl, rfl, lk, hcd⟩ := F.ex
  refine ⟨hlen, fun A fr s H ar us vs Q E hr hgd e0 bnd rel hw => ?_⟩
  have hl := hlen _ _ _ _ hw
  have kin : K.In s.heap := e0.mod.kin.keeps fun b o q => (e0.bs b o q).1
  have nol : s.heap.NoLimit := e0.mod.nolimit.keeps fun b o q => (e0.bs b o q).1
  have kinds : ∀ y ∈ ps.zip us, (defScope st).names.lookup y.1 = some .local ∨ ((defScope st).names.lookup y.1 = some .cell ∧ ((cellsFrom (s.heap.objs.size + 1) (defScope st).names []).lookup y.1).isSome = true) := by
    rintro ⟨n, v⟩ hy
    exact (S.par n (List.of_mem_zip hy).1).imp id fun q => ⟨q, PySem.W.cellsFrom_some _ _ _ (.inl q)⟩
  refine codeAny_call_function hr.depth (kin _ _ lk) rfl S.co S.gen rfl (PySem.W.codeRec_of kin hcd) (bnd _ _ _ _ ?_)
  refine wpAny_newFunctionEnv_cells S.kind kinds fun env he s1 ic => ?_
  subst he
  refine ⟨nol.keeps ic.toInCall.keep, codeAny_func ?_⟩
  obtain ⟨t, ht, hq⟩ := hb cdv A fr s H vs Q E (hr.deeper _) hgd hw
  have I0 : Inv (cxOf C P w K mg base N qual (defScope st) fa cdv A fr s H E) [] (start N vs) H s1 := inv_start S hr.hd e0 hl rel ic
  refine wpAny_mono (ht.run [] s1 (start N vs) H _ I0 hq) (fun fl s' hs => ?_) fun _ _ z => z
  have done : ∀ {σ' : L2.St} {H' : Hp} {v : V} {u : Value}, Inv (cxOf C P w K mg base N qual (defScope st) fa cdv A fr s H E) [] σ' H' s' → RelV v u → Q v H' → CE fr P w H s Q u s' := fun {σ' H' v u} J rv q => ⟨v, H', J.os, J.bare, J.base, J.hok, rv, q⟩
  cases fl with
  | ret u => obtain ⟨v, σ', H', J, rv, q⟩ := hs; exact done J rv q
  | next => obtain ⟨σ', H', J, q⟩ := hs; exact done (v := V.non) (u := Value.none) J rfl q
  | brk => obtain ⟨_, _, _, q⟩ := hs; exact q.elim
  | cont => obtain ⟨_, _, _, q⟩ := hs; exact q.elim
end
section
variable {X : Cx} {C : CXT} {k : Nat} {fa : Addr} {fd : FuncData} {ps : List Str} {sp : Sp} {dvs : List V} {ds : List Value} {E : L2.St → XK} {x : Str} {p pos : Pos} {e : Expr} {es : List Expr} {t : TA}
theorem run_G {pins : List (Addr × Obj)} {σ : L2.St} {H : Hp} {s : Shared} {Q : VK} {us : List Value} {vs : List V} (F : FnG X.prog X.w X.K X.mg X.base C k fa fd ps sp) (hr : Room k X.A) (hgd : X.A.guards = some []) (hb : Binds X.K fd ps ds) (hd : Vals dvs ds)
    (hx : PassesAt C X σ (E σ)) (I : Inv X pins σ H s) (r : Vals vs us) (h : sp (vs ++ dvs) H Q (E σ)) : wpAny (model X.prog X.w) X.A (call (.ref fa) us) (EP X pins σ Q) X.xe s := by
  have rr : Vals (vs ++ dvs) (us ++ ds) := r.append hd
  have hl : (us ++ ds).length = ps.length := rr.length.symm.trans (F.len _ _ _ _ h)
  refine wpAny_call (codeAny_mono (F.run X.A X.stack s H ⟨us, []⟩ (us ++ ds) (vs ++ dvs) Q (E σ) hr hgd I.env0 (hb s us I.kIn hl) rr h) fun res s' hq => ?_)
  match res, hq with
  | .error e, hq => exact hx pins H s e s' I hq
  | .ok (.ret u), hq => exact I.after hq
  | .ok .next, hq => exact hq.elim
  | .ok .brk, hq => exact hq.elim
  | .ok .cont, hq => exact hq.elim
theorem pe_callG (F : FnG X.prog X.w X.K X.mg X.base C k fa fd ps sp) (hr : Room k X.A) (hgd : X.A.guards = some []) (hg : Gl X x) (hm : X.mg x = some (.ref fa)) (hk : PySem.W.keepIn X.K (.ref fa) = true) (hb : Binds X.K fd ps ds) (hd : Vals dvs ds) (hx : ∀ σ, PassesAt C X σ (E σ))
    (ha : PA X (e :: es) t) (hdb : (x == ("__debug__" : Str)) = false) (he : starEach (e :: es) X.env = (false, eval e X.env) :: starEach es X.env) (hpl : (backTo pos (starEach es X.env)).any (·.1) = false) :
    PE X (.Call (.Name x p) (e :: es) [] pos) (tCallSD sp dvs E t) := by
  refine ⟨fun pins s σ H Q I h => wpAny_Call_Name_kw (ld_glob I hg hm ?_ hdb)⟩
  refine PySem.W.callWith_K (h₀ := X.base) I.ok.mod.kin hk (thn (ha.run pos pins s σ H _ I h) fun us s1 hh => ?_) he hpl
  obtain ⟨vs, H1, I1, r, q⟩ := hh
  exact ⟨I1.kIn, run_G F hr hgd hb hd (hx σ) I1 r q⟩
end

/-! ### the law's end -/
theorem law_G {P : Program} {w : World} {K : PySem.W.Frag} {mg mb : Str → Option Value} {C : CXT} {k : Nat} {fa a : Addr} {fd : FuncData} {x : Str} {sp : Sp} {s₁ : Shared} {vs : List Value} {ns : List Int}
    (KX : K.In s₁.heap) (hns : s₁.heap.Ns mainGlobals mg) (hb : s₁.heap.Ns builtinsNs mb) (hbb : ∀ x : Str, x ≠ "__name__" → mb x = bootBuiltins x) (hlim : s₁.heap.NoLimit) (hg : s₁.gens = #[]) (ha : s₁.heap.get? a = some { cls := .type "list", data := .seq vs.toArray })
    (hi : IntsAre vs ns) (hl : ns.length ≤ sizeLine) (hr : Room k callerA) (F : ∀ base : Heap, K.In base → base.Ns mainGlobals mg → FnG P w K mg base C k fa fd [x] sp) (hbind : ∀ (s : Shared) (u : Value), BindsTo s fd ⟨[u], []⟩ [(x, u)])
    (hsp : ∀ H : Hp, Only H → SqL K H a (ns.map V.int) → sp [.ref a] H (fun v _ => v = .bl true) fun _ _ _ => False) (hC : ∀ H e s', C [] H s₁ (fun _ _ _ => False) e s' → False) :
    codeAny (model P w) callerA (.call (.ref fa) ⟨[.ref a], []⟩) (fun r s' => r = .ok (.ret (.bool true)) ∧ OldK s₁.heap s'.heap ∧ s'.os = s₁.os ∧ AllBare s'.gens) s₁ := by
  have rv := vals_ints hi
  have lenV := hi.length
  have main : ∀ H : Hp, Only H → SqL K H a (ns.map V.int) → HOk P w H s₁.heap → (∀ b, H b ≠ none → b = a) → (H a ≠ none → K.lookup a = none) →
      codeAny (model P w) callerA (.call (.ref fa) ⟨[.ref a], []⟩) (fun r s' => r = .ok (.ret (.bool true)) ∧ OldK s₁.heap s'.heap ∧ s'.os = s₁.os ∧ AllBare s'.gens) s₁ := fun H hO hS hok hA hK => by
    have isA : ∀ {b : Addr} {u : HO}, H b = some u → b = a := fun {b u} q => hA b fun z => by rw [q] at z; cases z
    have noD : ∀ {b : Addr} {o : Obj} {es : Array DictEntry} {ep : Nat}, s₁.heap.get? b = some o → o.data = .dict es ep → H b = none := fun {b o es ep} e d => by
      cases q : H b with
      | none => rfl
      | some u =>
        rw [isA q, ha] at e
        cases e
        exact nomatch (show Data.seq vs.toArray _ = Data.dict es ep from d)
    have toB : ∀ {b : Addr} {m : Str → Option Value}, s₁.heap.Ns b m → (hidT s₁.heap H).Ns b m := fun {b m} ⟨o, es, ep, e, d, r⟩ => ⟨o, es, ep, hidT_get e (noD e d), d, r⟩
    have kB : K.In (hidT s₁.heap H) := fun b o e => hidT_get (KX b o e) (by
      cases q : H b with
      | none => rfl
      | some u =>
        have e' := isA q
        subst e'
        have z := hK fun z => by rw [q] at z; cases z
        rw [z] at e
        cases e)
    obtain ⟨ml, l1, l2⟩ := hlim
    have md : Mod K mg (hidT s₁.heap H) := ⟨kB, toB hns, ⟨mb, toB hb, hbb⟩, ⟨ml, toB l1, l2⟩⟩
    have nofr : ∀ b ∈ frs [], H b = none := fun b z => absurd (show b ∈ ([] : List Addr) from z) List.not_mem_nil
    have e0 : Env0 P w K mg (hidT s₁.heap H) callerA [] s₁ H := ⟨rfl, md, fun b o q => of_hidT q, Nat.le_of_eq (hidT_size _ _), trivial, nofr, hok, .of_eq hg⟩
    refine codeAny_mono ((F _ kB (toB hns)).run callerA [] s₁ H ⟨[.ref a], []⟩ [.ref a] [.ref a] _ _ hr rfl e0 (hbind s₁ (.ref a)) (.cons rfl .nil) (hsp H hO hS)) fun r s' h => ?_
    match r, h with
    | .error e, h => exact (hC H e s' h).elim
    | .ok .next, h => exact h.elim
    | .ok .brk, h => exact h.elim
    | .ok .cont, h => exact h.elim
    | .ok (.ret u), h =>
      obtain ⟨v, H', os, bare, un, hok2, ru, q⟩ := h
      have q2 : v = .bl true := q
      subst q2
      have eu : u = Value.bool true := ru
      subst eu
      refine ⟨rfl, OldK.of_keep fun b o e => ?_, os, bare⟩
      cases q : H b with
      | none => exact un.keep b o e q (fun z => absurd (show b ∈ ([] : List Addr) from z) List.not_mem_nil) List.not_mem_nil
      | some u =>
        rcases hO b with z | ⟨ob, xs, z⟩
        · rw [q] at z; cases z
        · have y1 := (hok b _ z).1
          have y2 := (hok2 b _ (un.frzs b ob _ z)).1
          rw [e] at y1
          cases y1
          exact y2
  cases hk : K.lookup a with
  | some o =>
    have e := KX a o hk
    rw [ha] at e
    cases e
    have sq : SqL K (fun _ => none) a (ns.map V.int) := .inr ⟨_, vs.toArray, _, hk, rfl, rfl, rfl, by rw [List.size_toArray, lenV]; exact hl, by simpa using rv⟩
    exact main (fun _ => none) (fun _ => .inl rfl) sq (fun b u z => nomatch z) (fun b z => absurd rfl z) fun z => absurd rfl z
  | none =>
    have pick : ∀ b, (b = a ∧ (fun b => if b = a then some (HO.frz { cls := .type "list", data := .seq vs.toArray } (.lst (ns.map V.int))) else none) b = some (.frz { cls := .type "list", data := .seq vs.toArray } (.lst (ns.map V.int)))) ∨
        (b ≠ a ∧ (fun b => if b = a then some (HO.frz { cls := .type "list", data := .seq vs.toArray } (.lst (ns.map V.int))) else none) b = none) := fun b => by
      by_cases h : b = a
      · exact .inl ⟨h, if_pos h⟩
      · exact .inr ⟨h, if_neg h⟩
    refine main (fun b => if b = a then some (.frz { cls := .type "list", data := .seq vs.toArray } (.lst (ns.map V.int))) else none) (fun b => ?_) (.inl (.inr ⟨_, if_pos rfl⟩)) (fun b u z => ?_) (fun b z => ?_) fun _ => hk
    · rcases pick b with ⟨_, q⟩ | ⟨_, q⟩
      · exact .inr ⟨_, _, q⟩
      · exact .inl q
    · rcases pick b with ⟨rfl, q⟩ | ⟨_, q⟩
      · rw [q] at z
        cases z
        exact ⟨ha, by rw [List.length_map]; exact hl, vs, _, rv, ha⟩
      · rw [q] at z; cases z
    · rcases pick b with ⟨h, _⟩ | ⟨_, q⟩
      · exact h
      · exact absurd q z
theorem walk_G {l : PySem.W.OpenLaw} {n k : Nat} {q : Program} {loose : List Str} {XP : (Str → Option Value) → Heap → Prop} {YP : World → Heap → Prop} {d : DefRec} {K : Params → PySem.W.Frag} {C : World → CXT} {sp : World → (Str → Option Value) → Sp} {x : Str}
    (hn : l.most = some n) (hn2 : n ≤ sizeLine) (hdf : d.params.defaults = []) (hr : Room k callerA) (hY : ∀ (w : World) (h : Heap), YP w h → (K w.params).In h)
    (F : ∀ (w : World) (mg : Str → Option Value) (fa : Addr) (h : Heap), (K w.params).In h → h.Ns mainGlobals mg → mg d.name = some (.ref fa) → ∃ fd : FuncData, (∀ (s : Shared) (u : Value), BindsTo s fd ⟨[u], []⟩ [(x, u)]) ∧
        ∀ base : Heap, (K w.params).In base → base.Ns mainGlobals mg → FnG l.prog w (K w.params) mg base (C w) k fa fd [x] (sp w mg))
    (hsp : ∀ (w : World) (mg : Str → Option Value) (H : Hp) (a : Addr) (ns : List Int), ns.length ≤ n → Only H → SqL (K w.params) H a (ns.map V.int) → sp w mg [.ref a] H (fun v _ => v = .bl true) fun _ _ _ => False)
    (hC : ∀ (w : World) (H : Hp) (s : Shared) (e : Value) (s' : Shared), C w [] H s (fun _ _ _ => False) e s' → False) : PySem.W.WalkO q loose XP YP l.row.toRowW d [] (fun f vs => PySem.call f vs) := by
  refine Att.attach_call hn hdf fun w s0 s1 mg mb fa o pm cd doc a vs ns G Y ho hd hcd hmg hobj hints hlen hgen => ?_
  have kin := hY w _ Y
  obtain ⟨fd, hb, hF⟩ := F w mg fa _ kin G.T.g hmg
  exact law_G kin G.T.g G.T.b G.T.builtins G.T.nolimit hgen hobj hints (Nat.le_trans hlen hn2) hr hF hb (fun H hO hS => hsp w mg H a ns hlen hO hS) fun H e s' => hC w H s1 e s'
theorem cx_no {w : World} {P : Program} {H : Hp} {s : Shared} {e : Value} {s' : Shared} (h : L2.CX P w [] H s (fun _ _ _ => False) e s') : False := by
  obtain ⟨_, _, _, _, _, _, _, _, _, _, _, _, z⟩ := h
  exact z
end DL
set_option Elab.async false
set_option linter.all false
set_option maxRecDepth 100000
set_option maxHeartbeats 2000000
/-! DLe: the promise of a def by its denotation, its body, its call. -/
namespace DL
open PySem L2

inductive FR where
  | ok (d : D) (ps : List D)
  | er (c : Str) (ns : List Str) (xs : List D) (ps : List D)
  | no

section
variable (K : PySem.W.Frag) (mg : Str → Option Value)
/-- as RpL, but what is not known any more -/
def RpLu (F H : Hp) : List D → List V → List Addr → Prop
  | [], vs, S => vs = [] ∧ S = []
  | d :: ds, vs, S => ∃ v r S1 S2, vs = v :: r ∧ S = S1 ++ S2 ∧ ((d = .un ∧ S1 = []) ∨ Rp K mg F H d v S1) ∧ RpLu F H ds r S2
/-- behind a call -/
def PostC (F H : Hp) (S : List Addr) (F' H' : Hp) (ds : List D) (vs : List V) : Prop :=
  ∃ S', RpLu K mg F' H' ds vs S' ∧ S'.Nodup ∧ (∀ a ∈ S', F' a = none) ∧ Ex F' H' ∧ ∀ a, H a ≠ none → a ∉ S → H' a = H a ∧ F' a = F a ∧ a ∉ S'
def FRP (r : FR) (k : D → List D → Prop) (g : Str → List Str → List D → List D → Prop) : Prop := match r with
  | .ok d ps => isSl d = false ∧ isUn d = false ∧ k d ps
  | .er c ns xs ps => g c ns xs ps
  | .no => False
def spD (n : Nat) (fden : List D → FR) : Sp := fun vs H Q E => vs.length = n ∧ ∃ F ds S, RpL K mg F H ds vs S ∧ S.Nodup ∧ (∀ a ∈ S, F a = none) ∧ Ex F H ∧
  FRP (fden ds) (fun d ps => ∀ v H' F', PostC K mg F H S F' H' (d :: ps) (v :: vs) → Q v H') fun c ns xs ps => ∀ cls dx H' F', PostC K mg F H S F' H' ps vs → ErrIs K mg F' H' c ns xs cls dx → E cls dx H'
end
/-- the promise that a def answers as fden says -/
abbrev FnD (P : Program) (w : World) (K : PySem.W.Frag) (mg : Str → Option Value) (base : Heap) (k : Nat) (f : Addr) (fd : FuncData) (ps : List Str) (fden : List D → FR) : Prop :=
  FnG P w K mg base (L2.CX P w) k f fd ps (spD K mg ps.length fden)

/-! ### arguments taken, given back -/
def takeA : List D → List D → Option (List D × List D)
  | [], env => some ([], env)
  | d :: ds, env => match takeA ds env with
    | none => none
    | some (xs, e1) => match d with
      | .sl i => if isUn (e1.getD i .un) then none else some (e1.getD i .un :: xs, e1.set i .un)
      | d => some (d :: xs, e1)
def putA : List D → List D → List D → List D
  | d :: ds, p :: ps, env => putA ds ps (match d with
    | .sl i => if isUn p then env else env.set i p
    | _ => env)
  | _, _, env => env
def alIx : List D → List Nat
  | [] => []
  | d :: ds => match d with
    | .sl i => i :: alIx ds
    | _ => alIx ds

section
variable {K : PySem.W.Frag} {mg : Str → Option Value} {B : Bd} {σ : St} {F F' H H' : Hp} {ow : Own → List Addr}

theorem takeA_un : ∀ {ds env xs e1 : List D}, takeA ds env = some (xs, e1) → e1.length = env.length ∧ ds.length = xs.length ∧ (alIx ds).Nodup ∧ (∀ i ∈ alIx ds, e1.getD i .un = .un ∧ i < env.length) ∧ ∀ i, i ∉ alIx ds → e1[i]? = env[i]?
  | [], env, xs, e1, h => by
    unfold takeA at h
    cases h
    exact ⟨rfl, rfl, List.nodup_nil, fun i hi => absurd hi List.not_mem_nil, fun i _ => rfl⟩
  | d :: ds, env, xs, e1, h => by
    unfold takeA at h
    cases q : takeA ds env with
    | none => rw [q] at h; cases h
    | some p =>
      obtain ⟨ys, e2⟩ := p
      rw [q] at h
      obtain ⟨h1, h0, h2, h3, h4⟩ := takeA_un q
      cases d with
      | sl i =>
        dsimp only at h
        cases hu : isUn (e2.getD i .un) with
        | true => rw [hu, if_pos rfl] at h; cases h
        | false =>
          rw [hu, if_neg Bool.false_ne_true] at h
          cases h
          have ni : i ∉ alIx ds := fun z => by
            rw [(h3 i z).1] at hu
            cases hu
          have il : i < e2.length := by
            rcases Nat.lt_or_ge i e2.length with l | l
            · exact l
            · rw [List.getD_eq_getElem?_getD, List.getElem?_eq_none l] at hu
              cases hu
          refine ⟨by simp [h1], by simp [h0], List.nodup_cons.mpr ⟨ni, h2⟩, fun j hj => ?_, fun j hj => ?_⟩
          · rcases List.mem_cons.mp hj with z | z
            · subst z
              exact ⟨by rw [List.getD_eq_getElem?_getD, List.getElem?_set_self il]; rfl, by omega⟩
            · have jn : i ≠ j := fun z2 => ni (by rw [z2]; exact z)
              exact ⟨by rw [List.getD_eq_getElem?_getD, List.getElem?_set_ne jn, ← List.getD_eq_getElem?_getD]; exact (h3 j z).1, (h3 j z).2⟩
          · have jn : i ≠ j := fun z2 => hj (by rw [z2]; exact List.mem_cons_self)
            rw [List.getElem?_set_ne jn]
            exact h4 j fun z => hj (List.mem_cons_of_mem _ z)
      | _ => cases h; exact ⟨h1, by simp [h0], h2, h3, h4⟩

def TookA (K : PySem.W.Frag) (mg : Str → Option Value) (B : Bd) (σ : St) (H F : Hp) (e1 ts : List D) (vs : List V) (ow : Own → List Addr) (xs ds : List D) (ws : List V) : Prop :=
  ∃ ow' S, REw K mg B σ H F e1 ts vs ow' ∧ RpL K mg F H xs ws S ∧ S.Nodup ∧ (∀ a ∈ S, (∀ o, a ∉ ow' o) ∧ F a = none ∧ ¬ B.out a) ∧ (∀ o a, a ∈ ow' o → a ∈ ow o) ∧ (∀ a ∈ S, ∃ o, a ∈ ow o) ∧ ∀ (k i : Nat), ds[k]? = some (.sl i) → ∃ w, ws[k]? = some w ∧ σ[i]? = some (some w)
theorem REw.takeA : ∀ {ds : List D} {ws : List V} {env ts : List D} {vs : List V} {ow : Own → List Addr} {xs e1 : List D}, ds.length = ws.length → DL.takeA ds env = some (xs, e1) → REw K mg B σ H F env (ts ++ ds) (vs ++ ws) ow →
    TookA K mg B σ H F e1 ts vs ow xs ds ws
  | [], [], env, ts, vs, ow, xs, e1, _, h, R => by
    unfold DL.takeA at h
    cases h
    rw [List.append_nil, List.append_nil] at R
    exact ⟨ow, [], R, by unfold RpL; exact ⟨rfl, rfl⟩, List.nodup_nil, fun a ha => absurd ha List.not_mem_nil, fun _ _ z => z, fun a ha => absurd ha List.not_mem_nil, fun k i z => by simp at z⟩
  | d :: ds, w :: ws, env, ts, vs, ow, xs, e1, hl, h, R => by
    have R' : REw K mg B σ H F env ((ts ++ [d]) ++ ds) ((vs ++ [w]) ++ ws) ow := by
      rw [List.append_assoc, List.append_assoc]
      exact R
    have hl' : ds.length = ws.length := by simpa using hl
    unfold DL.takeA at h
    cases q : DL.takeA ds env with
    | none => rw [q] at h; cases h
    | some p =>
      obtain ⟨ys, e2⟩ := p
      rw [q] at h
      obtain ⟨ow1, S2, r1, rp2, nd2, hn2, sb1, in1, al1⟩ := REw.takeA hl' q R'
      have fin : ∀ {x : D} {e3 : List D} {ow2 : Own → List Addr} {S1 : List Addr}, REw K mg B σ H F e3 ts vs ow2 → Rp K mg F H x w S1 → S1.Nodup → (∀ a ∈ S1, (∀ o, a ∉ ow2 o) ∧ F a = none ∧ ¬ B.out a) → (∀ o a, a ∈ ow2 o → a ∈ ow1 o) → (∀ a ∈ S1, ∃ o, a ∈ ow1 o) →
          (∀ (k i : Nat), (d :: ds)[k]? = some (.sl i) → ∃ u, (w :: ws)[k]? = some u ∧ σ[i]? = some (some u)) → xs = x :: ys → e1 = e3 →
          TookA K mg B σ H F e1 ts vs ow xs (d :: ds) (w :: ws) := by
        intro x e3 ow2 S1 r2 rp1 nd1 hn1 sb2 in2 al ex ee
        subst ex ee
        refine ⟨ow2, S1 ++ S2, r2, by unfold RpL; exact ⟨w, ws, S1, S2, rfl, rfl, rp1, rp2⟩, List.nodup_append.mpr ⟨nd1, nd2, fun a ha b hb z => ?_⟩, fun a ha => ?_, fun o a z => sb1 o a (sb2 o a z), fun a ha => ?_, al⟩
        · subst z
          obtain ⟨o, ho⟩ := in2 a ha
          exact (hn2 a hb).1 o ho
        · rcases List.mem_append.mp ha with ha | ha
          · exact hn1 a ha
          · exact ⟨fun o z => (hn2 a ha).1 o (sb2 o a z), (hn2 a ha).2⟩
        · rcases List.mem_append.mp ha with ha | ha
          · obtain ⟨o, ho⟩ := in2 a ha
            exact ⟨o, sb1 o a ho⟩
          · exact in1 a ha
      have alc : (∀ i, d = .sl i → σ[i]? = some (some w)) → ∀ (k i : Nat), (d :: ds)[k]? = some (.sl i) → ∃ u, (w :: ws)[k]? = some u ∧ σ[i]? = some (some u) := fun h0 k i z => by
        cases k with
        | zero =>
          rw [List.getElem?_cons_zero] at z
          cases z
          exact ⟨w, rfl, h0 i rfl⟩
        | succ k => exact al1 k i z
      have nosl : (∀ i, d ≠ .sl i) → xs = d :: ys → e1 = e2 → TookA K mg B σ H F e1 ts vs ow xs (d :: ds) (w :: ws) := fun hd ex ee => by
        obtain ⟨ow2, S1, r2, rp1, nd1, hn1, _, sb2, in2⟩ := r1.take1 hd
        exact fin r2 rp1 nd1 hn1 sb2 in2 (alc fun i z => absurd z (hd i)) ex ee
      cases d with
      | sl i =>
        dsimp only at h
        cases hu : isUn (e2.getD i .un) with
        | true => rw [hu, if_pos rfl] at h; cases h
        | false =>
          rw [hu, if_neg Bool.false_ne_true] at h
          cases h
          have tl := r1.tlen
          simp only [List.length_append, List.length_cons, List.length_nil] at tl
          have hlt : ts.length = vs.length := by omega
          obtain ⟨hv, h0⟩ : σ[i]? = some (some w) ∧ _ := r1.temp ts.length (.sl i) w (by simp) (by rw [hlt]; simp)
          rw [List.getD_eq_getElem?_getD] at hu fin ⊢
          cases ee : e2[i]? with
          | none => rw [ee] at hu; cases hu
          | some x =>
            rw [ee] at hu fin
            simp only [Option.getD_some] at hu fin ⊢
            obtain ⟨v', ev, rp⟩ := r1.slot i x ee (isUn_of hu)
            rw [hv] at ev
            cases ev
            have r2 := (r1.drop (us := [.sl i]) (ws := [w]) rfl).unslot i
            have sub : ∀ o a, a ∈ offS (low ow1 ts.length) i [] o → a ∈ ow1 o ∧ o ≠ .s i := fun o a z => by
              by_cases qq : o = .s i
              · subst qq; rw [offS_in] at z; exact absurd z List.not_mem_nil
              · rw [offS_ne qq] at z; exact ⟨mem_low z, qq⟩
            refine fin r2 rp (r1.nod _) (fun a ha => ⟨fun o z => ?_, r1.fno _ a ha, fun z => (r1.fr a z).2.2.2 _ ha⟩) (fun o a z => (sub o a z).1) (fun a ha => ⟨_, ha⟩) (alc fun j z => by cases z; exact hv) rfl rfl
            exact (sub o a z).2 (r1.uniq _ _ a (sub o a z).1 ha)
      | _ => cases h; exact nosl (fun i z => by cases z) rfl rfl
  | [], _ :: _, _, _, _, _, _, _, h, _, _ => by cases h
  | _ :: _, [], _, _, _, _, _, _, h, _, _ => by cases h

theorem REw.putA : ∀ {ds ps : List D} {ws : List V} {env ts : List D} {vs : List V} {ow : Own → List Addr} {S : List Addr}, ds.length = ws.length → RpLu K mg F H ps ws S → REw K mg B σ H F env ts vs ow → S.Nodup → (∀ a ∈ S, (∀ o, a ∉ ow o) ∧ F a = none ∧ ¬ B.out a) → (alIx ds).Nodup → (∀ i ∈ alIx ds, ow (.s i) = [] ∧ i < env.length) →
    (∀ (k i : Nat), ds[k]? = some (.sl i) → ∃ w, ws[k]? = some w ∧ σ[i]? = some (some w)) → RE K mg B σ H F (DL.putA ds ps env) ts vs
  | [], ps, ws, env, ts, vs, ow, S, _, _, R, _, _, _, _, _ => by
    unfold DL.putA
    exact ⟨ow, R⟩
  | d :: ds, [], ws, env, ts, vs, ow, S, _, _, R, _, _, _, _, _ => by
    unfold DL.putA
    exact ⟨ow, R⟩
  | d :: ds, p :: ps, ws, env, ts, vs, ow, S, hl, h, R, nd, hn, na, h0, al => by
    unfold RpLu at h
    obtain ⟨w, r, S1, S2, rfl, rfl, hp, hr⟩ := h
    obtain ⟨nd1, nd2, dis⟩ := List.nodup_append.mp nd
    have hl' : ds.length = r.length := by simpa using hl
    have al' : ∀ (k i : Nat), ds[k]? = some (.sl i) → ∃ u, r[k]? = some u ∧ σ[i]? = some (some u) := fun k i z => al (k + 1) i z
    have skip : (alIx ds).Nodup → (∀ i ∈ alIx ds, ow (.s i) = [] ∧ i < env.length) → RE K mg B σ H F (DL.putA ds ps env) ts vs := fun n1 n2 => REw.putA hl' hr R nd2 (fun a ha => hn a (List.mem_append_right _ ha)) n1 n2 al'
    unfold DL.putA
    cases d with
    | sl i =>
      have e0 : alIx (.sl i :: ds) = i :: alIx ds := rfl
      rw [e0] at na h0
      obtain ⟨ni, na'⟩ := List.nodup_cons.mp na
      dsimp only
      cases hu : isUn p with
      | true => rw [if_pos rfl]; exact skip na' fun j hj => h0 j (List.mem_cons_of_mem _ hj)
      | false =>
        rw [if_neg Bool.false_ne_true]
        have hp' : Rp K mg F H p w S1 := hp.resolve_left fun z => by rw [z.1] at hu; cases hu
        obtain ⟨w', ew, hv⟩ := al 0 i rfl
        cases ew
        obtain ⟨oi, il⟩ := h0 i List.mem_cons_self
        have r1 := R.putS il oi hv hp' (fun a ha => hn a (List.mem_append_left _ ha)) nd1
        refine REw.putA hl' hr r1 nd2 (fun a ha => ⟨fun o z => ?_, (hn a (List.mem_append_right _ ha)).2⟩) na' (fun j hj => ?_) al'
        · by_cases qq : o = .s i
          · subst qq
            rw [offS_in] at z
            exact dis a z a ha rfl
          · rw [offS_ne qq] at z
            exact (hn a (List.mem_append_right _ ha)).1 o z
        · obtain ⟨oj, jl⟩ := h0 j (List.mem_cons_of_mem _ hj)
          rw [offS_ne (by intro z; cases z; exact ni hj)]
          exact ⟨oj, by simpa using jl⟩
    | _ => exact skip na h0
end

/-! ### the call -/
@[simp] def dFn (n : Nat) (fden : List D → FR) (dd : List D) (args : Dn (List D)) : Dn D := args.bind fun ds env => if ds.length + dd.length = n then match takeA ds env with
  | none => .no
  | some (xs, e1) => match fden (xs ++ dd) with
    | .ok d ps => if isSl d || isUn d then .no else .ok d (putA ds ps e1)
    | .er c ns ys ps => .er c ns ys (putA ds ps e1)
    | .no => .no
  else .no

section
variable {X : Cx} {W : WX} {k : Nat} {f C : Addr} {fd : FuncData} {ps : List Str} {fden : List D → FR} {dvs : List V} {dsv : List Value} {dd : List D} {x m : Str} {p pos apos : Pos} {e o : Expr} {es : List Expr} {da : Dn (List D)}

theorem RpL.append {K : PySem.W.Frag} {mg : Str → Option Value} {F H : Hp} : ∀ {xs ys : List D} {us ws : List V} {S T : List Addr}, RpL K mg F H xs us S → RpL K mg F H ys ws T → RpL K mg F H (xs ++ ys) (us ++ ws) (S ++ T)
  | [], ys, us, ws, S, T, h1, h2 => by
    unfold RpL at h1
    rw [h1.1, h1.2]
    exact h2
  | d :: xs, ys, us, ws, S, T, h1, h2 => by
    unfold RpL at h1
    obtain ⟨v, r, S1, S2, rfl, rfl, r1, r2⟩ := h1
    show RpL K mg F H (d :: (xs ++ ys)) (v :: (r ++ ws)) _
    unfold RpL
    exact ⟨v, r ++ ws, S1, S2 ++ T, rfl, List.append_assoc _ _ _, r1, RpL.append r2 h2⟩
theorem RpLu.front {K : PySem.W.Frag} {mg : Str → Option Value} {F H : Hp} : ∀ {ps : List D} {us ws : List V} {S : List Addr}, RpLu K mg F H ps (us ++ ws) S → ∃ S1 S2, S = S1 ++ S2 ∧ RpLu K mg F H (ps.take us.length) us S1
  | ps, [], ws, S, h => ⟨[], S, rfl, by rw [List.length_nil, List.take_zero]; unfold RpLu; exact ⟨rfl, rfl⟩⟩
  | [], u :: us, ws, S, h => by
    unfold RpLu at h
    cases h.1
  | p :: ps, u :: us, ws, S, h => by
    unfold RpLu at h
    obtain ⟨v, r, S1, S2, e, rfl, hp, hr⟩ := h
    cases e
    obtain ⟨T1, T2, rfl, q⟩ := hr.front
    refine ⟨S1 ++ T1, T2, (List.append_assoc _ _ _).symm, ?_⟩
    rw [List.length_cons, List.take_succ_cons]
    unfold RpLu
    exact ⟨u, us, S1, T1, rfl, rfl, hp, q⟩
theorem putA_take : ∀ {ds ps env : List D}, putA ds (ps.take ds.length) env = putA ds ps env
  | [], ps, env => by rw [List.length_nil, List.take_zero]; cases ps <;> rfl
  | d :: ds, [], env => by rw [List.take_nil]
  | d :: ds, p :: ps, env => by
    rw [List.length_cons, List.take_succ_cons]
    unfold putA
    exact putA_take

/-- behind a call, in the caller's state -/
theorem RE.back {B : Bd} {σ : St} {F H : Hp} {env ts ds xs e1 ddx : List D} {vs ws dvx : List V} {n : Nat} (R : RE X.K X.mg B σ H F env (ts ++ ds) (vs ++ ws)) (hl : ds.length = ws.length) (ht : takeA ds env = some (xs, e1)) (hdd : RpL X.K X.mg F H ddx dvx []) {Q : VK} {E : XK} (hn : (ws ++ dvx).length = n)
    (h : FRP (fden (xs ++ ddx)) (fun d ps => ∀ v H' F', RE X.K X.mg B σ H' F' (putA ds ps e1) (ts ++ [d]) (vs ++ [v]) → Q v H') fun c ns ys ps => ∀ cls dx H' F', RE X.K X.mg B σ H' F' (putA ds ps e1) ts vs → ErrIs X.K X.mg F' H' c ns ys cls dx → E cls dx H') :
    spD X.K X.mg n fden (ws ++ dvx) H Q E := by
  obtain ⟨ow, r⟩ := R
  obtain ⟨ow1, S, r1, rp, nd, hnn, sb, hin, al⟩ := r.takeA hl ht
  obtain ⟨l1, l2, na, un, _⟩ := takeA_un ht
  have o0 : ∀ i ∈ alIx ds, ow1 (.s i) = [] ∧ i < e1.length := fun i hi => by
    obtain ⟨u1, u2⟩ := un i hi
    have il : i < e1.length := by rw [l1]; exact u2
    refine ⟨r1.sun i (.inr ?_), il⟩
    rw [List.getD_eq_getElem?_getD, List.getElem?_eq_getElem il] at u1
    rw [List.getElem?_eq_getElem il]
    exact congrArg some u1
  refine ⟨hn, F, xs ++ ddx, S, ?_, nd, fun a ha => (hnn a ha).2.1, r.ex, ?_⟩
  · have z := rp.append hdd
    rw [List.append_nil] at z
    exact z
  -- the caller's state over the new heaps
  have grow : ∀ {F' H' : Hp} {S' : List Addr}, Ex F' H' → (∀ a, H a ≠ none → a ∉ S → H' a = H a ∧ F' a = F a ∧ a ∉ S') → REw X.K X.mg B σ H' F' e1 ts vs ow1 ∧ ∀ a ∈ S', (∀ o, a ∉ ow1 o) ∧ ¬ B.out a := fun {F' H' S'} ex fr => by
    have old : ∀ o a, a ∈ ow1 o → H' a = H a ∧ F' a = F a ∧ a ∉ S' := fun o a ha => fr a (r1.there o a ha) fun z => (hnn a z).1 o ha
    have oout : ∀ a, B.out a → H' a = H a ∧ F' a = F a ∧ a ∉ S' := fun a ha => fr a (by obtain ⟨q1, _, q3, _⟩ := r1.fr a ha; rw [q1]; exact q3) fun z => (hnn a z).2.2 ha
    refine ⟨r1.grow (fun a u hu => ?_) (fun o a ha => (old o a ha).1) (fun o a ha => (old o a ha).2.1.trans (r1.fno o a ha)) ex fun a ha => ⟨(oout a ha).1, (oout a ha).2.1⟩, fun a ha => ⟨fun o z => (old o a z).2.2 ha, fun z => (oout a z).2.2 ha⟩⟩
    have hh : H a ≠ none := by rw [r.ex a u hu]; intro z; cases z
    rw [(fr a hh fun z => by rw [(hnn a z).2.1] at hu; cases hu).2.1]
    exact hu
  unfold FRP at h ⊢
  cases q : fden (xs ++ ddx) with
  | no => rw [q] at h; exact h
  | er c ns ys ps =>
    rw [q] at h
    intro cls dx H' F' ⟨S', ru, nd', fn', ex', fr'⟩ ee
    obtain ⟨g, gn⟩ := grow ex' fr'
    obtain ⟨S1, S2, rfl, ru1⟩ := ru.front
    have z := REw.putA hl ru1 g (List.nodup_append.mp nd').1 (fun a ha => ⟨(gn a (List.mem_append_left _ ha)).1, fn' a (List.mem_append_left _ ha), (gn a (List.mem_append_left _ ha)).2⟩) na o0 al
    rw [← hl, putA_take] at z
    exact h cls dx H' F' z ee
  | ok d ps =>
    rw [q] at h
    refine ⟨h.1, h.2.1, fun v H' F' ⟨S', ru, nd', fn', ex', fr'⟩ => ?_⟩
    obtain ⟨g, gn⟩ := grow ex' fr'
    unfold RpLu at ru
    obtain ⟨v', rr, S1, S2, e, rfl, hd, ru2⟩ := ru
    cases e
    have hd' : Rp X.K X.mg F' H' d v S1 := hd.resolve_left fun z => by have z2 := h.2.1; rw [z.1] at z2; cases z2
    obtain ⟨T1, T2, rfl, ru1⟩ := ru2.front
    obtain ⟨n1, n2, dis⟩ := List.nodup_append.mp nd'
    obtain ⟨n3, n4, dis2⟩ := List.nodup_append.mp n2
    have g2 := g.push (Tm.of hd') (fun a ha => ⟨(gn a (List.mem_append_left _ ha)).1, fn' a (List.mem_append_left _ ha), (gn a (List.mem_append_left _ ha)).2⟩) n1
    have z := REw.putA hl ru1 g2 n3 (fun a ha => ⟨fun o z => ?_, fn' a (List.mem_append_right _ (List.mem_append_left _ ha)), (gn a (List.mem_append_right _ (List.mem_append_left _ ha))).2⟩) na o0 al
    · rw [← hl, putA_take] at z
      exact h.2.2 v H' F' z
    · cases o with
      | s i => exact (gn a (List.mem_append_right _ (List.mem_append_left _ ha))).1 _ z
      | t j =>
        unfold give at z
        dsimp only at z
        split at z
        · exact dis a z a (List.mem_append_left _ ha) rfl
        · exact (gn a (List.mem_append_right _ (List.mem_append_left _ ha))).1 _ z
end
end DL
set_option Elab.async false
set_option linter.all false
set_option maxRecDepth 100000
set_option maxHeartbeats 2000000
/-! DLf: a def keeps its promise; calls, targets, what is walked. -/
namespace DL
open PySem L2
open PyProof.Rows (envOfC)

/-- the parameters behind the body: P are those that it never stores -/
@[simp] def finA (P : List Nat) : Nat → List D → List D → List D
  | _, [], _ => []
  | k, d :: ds, e => (if P.contains k then e.headD .un else if froz d then d else .un) :: finA P (k + 1) ds e.tail
/-- a def's denotation by its body's: n parameters, m names -/
@[simp] def fdOf (P : List Nat) (m : Nat) (body : Sn) (ds : List D) : FR := match body (ds ++ List.replicate (m - ds.length) .un) with
  | .nx e => .ok .non (finA P 0 ds e)
  | .rt d e => if isUn d then .no else .ok d (finA P 0 ds e)
  | .er c ns xs e => .er c ns xs (finA P 0 ds e)
  | _ => .no

section
variable {K : PySem.W.Frag} {mg : Str → Option Value} {F F' H H' : Hp}

theorem fin_ok {P : List Nat} {σ : St} {ow : Own → List Addr} (e0 : Ex F F') (un : ∀ o o' a, a ∈ ow o → a ∈ ow o' → o = o') (nod : ∀ o, (ow o).Nodup) :
    ∀ {ds : List D} {vs : List V} {S : List Addr} {e : List D} {k : Nat}, RpL K mg F H ds vs S → (∀ (i : Nat) d, e[i]? = some d → d ≠ .un → ∃ v, σ[k + i]? = some (some v) ∧ Rp K mg F' H' d v (ow (.s (k + i)))) →
      (∀ (i : Nat) v, vs[i]? = some v → P.contains (k + i) = true → σ[k + i]? = some (some v)) →
      ∃ S', RpLu K mg F' H' (finA P k ds e) vs S' ∧ S'.Nodup ∧ ∀ a ∈ S', ∃ j, k ≤ j ∧ a ∈ ow (.s j)
  | [], vs, S, e, k, h, _, _ => by
    unfold RpL at h
    rw [h.1]
    exact ⟨[], by unfold finA RpLu; exact ⟨rfl, rfl⟩, List.nodup_nil, fun a ha => absurd ha List.not_mem_nil⟩
  | d :: ds, vs, S, e, k, h, hs, hp => by
    unfold RpL at h
    obtain ⟨v, r, S1, S2, rfl, rfl, h1, h2⟩ := h
    obtain ⟨T, q1, q2, q3⟩ := fin_ok e0 un nod (e := e.tail) (k := k + 1) h2 (fun i x hx hn => by
      have z := hs (i + 1) x (by rw [← List.getElem?_tail]; exact hx) hn
      rw [show k + (i + 1) = k + 1 + i by omega] at z
      exact z) (fun i v hv hc => by
      have z := hp (i + 1) v hv (by rw [show k + (i + 1) = k + 1 + i by omega]; exact hc)
      rw [show k + (i + 1) = k + 1 + i by omega] at z
      exact z)
    have fin : ∀ {x : D} {T1 : List Addr}, ((x = .un ∧ T1 = []) ∨ Rp K mg F' H' x v T1) → T1.Nodup → (∀ a ∈ T1, a ∈ ow (.s k)) → finA P k (d :: ds) e = x :: finA P (k + 1) ds e.tail →
        ∃ S', RpLu K mg F' H' (finA P k (d :: ds) e) (v :: r) S' ∧ S'.Nodup ∧ ∀ a ∈ S', ∃ j, k ≤ j ∧ a ∈ ow (.s j) := by
      intro x T1 hx nd ht ee
      rw [ee]
      refine ⟨T1 ++ T, by unfold RpLu; exact ⟨v, r, T1, T, rfl, rfl, hx, q1⟩, List.nodup_append.mpr ⟨nd, q2, fun a ha b hb z => ?_⟩, fun a ha => ?_⟩
      · subst z
        obtain ⟨j, hj, hm⟩ := q3 a hb
        have := un _ _ a (ht a ha) hm
        cases this
        omega
      · rcases List.mem_append.mp ha with ha | ha
        · exact ⟨k, Nat.le_refl _, ht a ha⟩
        · obtain ⟨j, hj, hm⟩ := q3 a ha
          exact ⟨j, by omega, hm⟩
    by_cases hk : P.contains k = true
    · have ee : finA P k (d :: ds) e = e.headD .un :: finA P (k + 1) ds e.tail := by
        show (if P.contains k then e.headD .un else _) :: _ = _
        rw [if_pos hk]
      cases e with
      | nil => exact fin (x := .un) (T1 := []) (.inl ⟨rfl, rfl⟩) List.nodup_nil (fun a ha => absurd ha List.not_mem_nil) ee
      | cons x e' =>
        by_cases hx : x = .un
        · exact fin (x := .un) (T1 := []) (.inl ⟨rfl, rfl⟩) List.nodup_nil (fun a ha => absurd ha List.not_mem_nil) (by rw [ee, ← hx]; rfl)
        · obtain ⟨v', ev, rp⟩ := hs 0 x rfl hx
          have e2 := hp 0 v rfl hk
          rw [Nat.add_zero] at ev e2 rp
          rw [e2] at ev
          cases ev
          exact fin (x := x) (.inr rp) (nod _) (fun a ha => ha) ee
    · by_cases hf : froz d = true
      · have ee : finA P k (d :: ds) e = d :: finA P (k + 1) ds e.tail := by
          show (if P.contains k then e.headD .un else if froz d then d else .un) :: _ = _
          rw [if_neg hk, if_pos hf]
        have z := h1.froz hf
        subst z
        exact fin (T1 := []) (.inr (h1.stay e0 fun a ha => absurd ha List.not_mem_nil)) List.nodup_nil (fun a ha => absurd ha List.not_mem_nil) ee
      · have ee : finA P k (d :: ds) e = .un :: finA P (k + 1) ds e.tail := by
          show (if P.contains k then e.headD .un else if froz d then d else .un) :: _ = _
          rw [if_neg hk, if_neg hf]
        exact fin (x := .un) (T1 := []) (.inl ⟨rfl, rfl⟩) List.nodup_nil (fun a ha => absurd ha List.not_mem_nil) ee

/-- the state at a body's start -/
theorem RE.start {N ps : List Str} {P : List Nat} {ds : List D} {vs : List V} {S : List Addr} (hl : vs.length = ps.length) (hN : ps.length ≤ N.length) (h : RpL K mg F H ds vs S) (nd : S.Nodup) (fn : ∀ a ∈ S, F a = none) (ex : Ex F H) (hP : ∀ i ∈ P, i < ps.length) :
    RE K mg ⟨fun a => H a ≠ none ∧ a ∉ S, H, F, P.map fun i => (i, vs.getD i .non)⟩ (start N vs) H F (ds ++ List.replicate (N.length - ds.length) .un) [] [] := by
  have el := h.len
  -- who owns what
  have key : ∀ {ds : List D} {vs : List V} {S : List Addr}, RpL K mg F H ds vs S → S.Nodup → ∃ g : Nat → List Addr, (∀ (i : Nat) d v, ds[i]? = some d → vs[i]? = some v → Rp K mg F H d v (g i)) ∧ (∀ i a, a ∈ g i → a ∈ S) ∧ (∀ i, ds.length ≤ i → g i = []) ∧ (∀ i j a, a ∈ g i → a ∈ g j → i = j) ∧ ∀ i, (g i).Nodup := by
    intro ds
    induction ds with
    | nil => intro vs S _ _; exact ⟨fun _ => [], fun i d v z => by simp at z, fun _ _ z => absurd z List.not_mem_nil, fun _ _ => rfl, fun _ _ _ z => absurd z List.not_mem_nil, fun _ => List.nodup_nil⟩
    | cons d ds ih =>
      intro vs S h nd
      unfold RpL at h
      obtain ⟨v, r, S1, S2, rfl, rfl, h1, h2⟩ := h
      obtain ⟨n1, n2, dis⟩ := List.nodup_append.mp nd
      obtain ⟨g, g1, g2, g3, g4, g5⟩ := ih h2 n2
      refine ⟨fun i => match i with | 0 => S1 | i + 1 => g i, fun i => ?_, fun i => ?_, fun i => ?_, fun i j => ?_, fun i => ?_⟩
      · cases i with
        | zero => intro x y e1 e2; cases e1; cases e2; exact h1
        | succ i => intro x y e1 e2; exact g1 i x y e1 e2
      · cases i with
        | zero => intro a ha; exact List.mem_append_left _ ha
        | succ i => intro a ha; exact List.mem_append_right _ (g2 i a ha)
      · cases i with
        | zero => intro z; simp at z
        | succ i => intro z; exact g3 i (by simpa using z)
      · cases i with
        | zero =>
          cases j with
          | zero => intro _ _ _; rfl
          | succ j => intro a ha hb; exact absurd rfl (dis a ha a (g2 j a hb))
        | succ i =>
          cases j with
          | zero => intro a ha hb; exact absurd rfl (dis a hb a (g2 i a ha))
          | succ j => intro a ha hb; rw [g4 i j a ha hb]
      · cases i with
        | zero => exact n1
        | succ i => exact g5 i
  obtain ⟨g, g1, g2, g3, g4, g5⟩ := key h nd
  refine ⟨fun o => match o with | .s i => g i | .t _ => [], ⟨?_, rfl, fun i d e1 e2 => ?_, fun i hi => ?_, fun k d v e1 => by simp at e1, fun _ _ => rfl, fun o o' a h1 h2 => ?_, fun o => ?_, fun o a ha => ?_, ex, fun a ha => ⟨rfl, rfl, ha.1, fun o z => ?_⟩, fun p hp => ?_⟩⟩
  · unfold L2.start
    simp only [List.length_append, List.length_replicate, List.length_map]
    omega
  · by_cases hi : i < ds.length
    · rw [List.getElem?_append_left hi] at e1
      have hv : i < vs.length := by omega
      refine ⟨vs[i], ?_, g1 i d vs[i] e1 (by simp [hv])⟩
      unfold L2.start
      rw [List.getElem?_append_left (by simp [hv]), List.getElem?_map]
      simp [hv]
    · exfalso
      rw [List.getElem?_append_right (by omega), List.getElem?_replicate] at e1
      split at e1
      · cases e1; exact e2 rfl
      · cases e1
  · by_cases hi2 : i < ds.length
    · exfalso
      rw [List.getElem?_append_left hi2] at hi
      rcases hi with z | z
      · have := List.getElem?_eq_none_iff.mp z
        omega
      · have r := g1 i .un (vs[i]'(by omega)) z (by simp)
        unfold Rp at r
        exact r
    · exact g3 i (by omega)
  · cases o with
    | s i =>
      cases o' with
      | s j => rw [g4 i j a h1 h2]
      | t k => exact absurd h2 List.not_mem_nil
    | t k => exact absurd h1 List.not_mem_nil
  · cases o with
    | s i => exact g5 i
    | t k => exact List.nodup_nil
  · cases o with
    | s i => exact fn a (g2 i a ha)
    | t k => exact absurd ha List.not_mem_nil
  · cases o with
    | s i => exact ha.2 (g2 i a z)
    | t k => exact absurd z List.not_mem_nil
  · obtain ⟨i, hi, rfl⟩ := List.mem_map.mp hp
    have hv : i < vs.length := by rw [hl]; exact hP i hi
    show (L2.start N vs)[i]? = some (some (vs.getD i .non))
    unfold L2.start
    rw [List.getElem?_append_left (by simp [hv]), List.getElem?_map, List.getD_eq_getElem?_getD]
    simp [hv]

variable {P : Program} {w : World} {base : Heap}
/-- THE RULE: a def answers as its body's denotation says -/
theorem fnD_of {x qual : Str} {st : Stmt} {f : Addr} {fd : FuncData} {N ps : List Str} {k : Nat} {Pn : List Nat} {body : Sn} (F : Fun K x qual st f fd) (S : FnScope N ps (defScope st)) (hP : ∀ i ∈ Pn, i < ps.length)
    (hb : ∀ (cdv : Value) (A : Around) (outer : List Env) (s : Shared) (H : Hp) (E : XK), Room k (A.deeper (envOfC qual (defScope st) s.heap.objs.size f cdv)) → A.guards = some [] →
      GSs (cxOf (L2.CX P w) P w K mg base N qual (defScope st) f cdv A outer s H E) (fun cls dx _ H' => E cls dx H') Pn (defBody st) body) :
    FnD P w K mg base (k + 1) f fd ps (fdOf Pn N.length body) := by
  have hN : ps.length ≤ N.length := by have := congrArg List.length S.pre; rw [List.length_take] at this; omega
  refine fnG_of F S (fun vs H Q E h => h.1) fun cdv A outer s H vs Q E hr hgd h => ⟨_, hb cdv A outer s H E hr hgd, ?_⟩
  obtain ⟨hl, F0, ds, S0, rp, nd, fn, ex, q⟩ := h
  have el := rp.len
  refine ⟨_, F0, _, [], [], ?_, fun d hd => absurd hd List.not_mem_nil, RE.start hl hN rp nd fn ex hP, ?_⟩
  · rw [List.map_map]
    exact List.map_id'' (fun _ => rfl) Pn
  -- the end
  have fin : ∀ {e : List D} {σ' : St} {H' F' : Hp} {ts : List D} {vs' : List V}, RE K mg ⟨fun a => H a ≠ none ∧ a ∉ S0, H, F0, Pn.map fun i => (i, vs.getD i .non)⟩ σ' H' F' e ts vs' → (∀ d ∈ ts, (isSl d = false)) → ts.length ≤ 1 → PostC K mg F0 H S0 F' H' (ts ++ finA Pn 0 ds e) (vs' ++ vs) := by
    intro e σ' H' F' ts vs' ⟨ow, r⟩ hs hl1
    have exF : Ex F0 F' := fun a o ho => by
      have h1 : H a ≠ none := by rw [ex a o ho]; intro z; cases z
      have h2 : a ∉ S0 := fun z => by rw [fn a z] at ho; cases ho
      rw [(r.fr a ⟨h1, h2⟩).2.1]
      exact ho
    obtain ⟨S', q1, q2, q3⟩ := fin_ok (k := 0) (e := e) (σ := σ') exF r.uniq r.nod rp (fun i d e1 e2 => by rw [Nat.zero_add]; exact r.slot i d e1 e2) (fun i v hv hc => by
      rw [Nat.zero_add] at hc ⊢
      have hm : i ∈ Pn := List.contains_iff_mem.mp hc
      have z := r.pin (i, vs.getD i .non) (List.mem_map.mpr ⟨i, hm, rfl⟩)
      rw [List.getD_eq_getElem?_getD, hv] at z
      exact z)
    have tl := r.tlen
    cases ts with
    | nil =>
      have e0 : vs' = [] := List.length_eq_zero_iff.mp tl.symm
      subst e0
      exact ⟨S', q1, q2, fun a ha => by obtain ⟨j, _, z⟩ := q3 a ha; exact r.fno _ a z, r.ex, fun a h1 h2 => ⟨(r.fr a ⟨h1, h2⟩).1, (r.fr a ⟨h1, h2⟩).2.1, fun z => by obtain ⟨j, _, zz⟩ := q3 a z; exact (r.fr a ⟨h1, h2⟩).2.2.2 _ zz⟩⟩
    | cons d ts2 =>
      have e2 : ts2 = [] := List.length_eq_zero_iff.mp (by rw [List.length_cons] at hl1; omega)
      subst e2
      cases vs' with
      | nil => cases tl
      | cons v vs2 =>
        have e3 : vs2 = [] := List.length_eq_zero_iff.mp (by simpa using tl.symm)
        subst e3
        have tm := r.temp 0 d v rfl rfl
        have hd : ∀ i, d ≠ .sl i := fun i z => by
          have := hs d List.mem_cons_self
          rw [z] at this; cases this
        refine ⟨ow (.t 0) ++ S', ?_, List.nodup_append.mpr ⟨r.nod _, q2, fun a ha b hb z => ?_⟩, fun a ha => ?_, r.ex, fun a h1 h2 => ⟨(r.fr a ⟨h1, h2⟩).1, (r.fr a ⟨h1, h2⟩).2.1, fun z => ?_⟩⟩
        · show RpLu K mg F' H' (d :: finA Pn 0 ds e) (v :: vs) _
          unfold RpLu
          exact ⟨v, vs, _, S', rfl, rfl, .inr (tm.rp hd), q1⟩
        · subst z
          obtain ⟨j, _, zz⟩ := q3 a hb
          have := r.uniq _ _ a ha zz
          cases this
        · rcases List.mem_append.mp ha with ha | ha
          · exact r.fno _ a ha
          · obtain ⟨j, _, z⟩ := q3 a ha
            exact r.fno _ a z
        · rcases List.mem_append.mp z with z | z
          · exact (r.fr a ⟨h1, h2⟩).2.2.2 _ z
          · obtain ⟨j, _, zz⟩ := q3 a z
            exact (r.fr a ⟨h1, h2⟩).2.2.2 _ zz
  unfold fdOf at q
  cases hq : body (ds ++ List.replicate (N.length - ds.length) .un) with
  | nx e =>
    rw [hq] at q
    intro σ' H' F' R'
    exact q.2.2 .non H' F' (fin (R'.push0 (d := .non) (v := .non) (Tm.of rp_non)) (fun d hd => by rcases List.mem_cons.mp hd with z | z; rw [z]; rfl; exact absurd z List.not_mem_nil) (Nat.le_refl 1))
  | rt d e =>
    rw [hq] at q
    dsimp only at q
    cases hu : isUn d with
    | true => rw [hu, if_pos rfl] at q; exact q.elim
    | false =>
      rw [hu, if_neg Bool.false_ne_true] at q
      refine ⟨q.1, fun v σ' H' F' R' => ?_⟩
      exact q.2.2 v H' F' (fin R' (fun x hx => by rcases List.mem_cons.mp hx with z | z; rw [z]; exact q.1; exact absurd z List.not_mem_nil) (Nat.le_refl 1))
  | er c ns xs e =>
    rw [hq] at q
    intro cls dx σ' H' F' R' ee
    exact q cls dx H' F' (fin R' (fun d hd => absurd hd List.not_mem_nil) (Nat.zero_le 1)) ee
  | bk e => rw [hq] at q; exact q.elim
  | ct e => rw [hq] at q; exact q.elim
  | no => rw [hq] at q; exact q.elim
end

/-! ### calls -/
section
variable {X : Cx} {W : WX} {P : List Nat} {k : Nat} {f C : Addr} {fd : FuncData} {ps : List Str} {fden : List D → FR} {x m : Str} {p pos apos : Pos} {e o a : Expr} {es : List Expr} {da : Dn (List D)} {dn : Dn D}

theorem call_imp {dvs : List V} {dd : List D} {n : Nat} (hdd : ∀ F H, RpL X.K X.mg F H dd dvs []) {σ : St} {H : Hp} {Q : VK} (h : rdE X.K X.mg W (dFn n fden dd da) σ H Q) :
    rdA X.K X.mg W da σ H (fun ws H1 => spD X.K X.mg n fden (ws ++ dvs) H1 Q (WE W σ)) := by
  obtain ⟨B, F, env, ts, vs, R, q⟩ := h
  refine ⟨B, F, env, ts, vs, R, (ResP.bind q).mono (fun ds e1 q' ws H1 F1 hl R1 => ?_) fun _ _ _ _ z => z⟩
  by_cases hn : ds.length + dd.length = n
  · rw [if_pos hn] at q'
    cases ht : takeA ds e1 with
    | none => rw [ht] at q'; exact q'.elim
    | some pr =>
      obtain ⟨xs, e2⟩ := pr
      rw [ht] at q'
      dsimp only at q'
      refine R1.back hl ht (hdd _ _) (by rw [List.length_append, ← hl, ← (hdd F H).len]; exact hn) ?_
      unfold FRP
      cases hf : fden (xs ++ dd) with
      | no => rw [hf] at q'; exact q'.elim
      | er c ns ys ps => rw [hf] at q'; exact fun cls dx H' F' R2 ee => q' cls dx H' F' R2 ee
      | ok d ps =>
        rw [hf] at q'
        dsimp only at q'
        by_cases hz : (isSl d || isUn d) = true
        · rw [if_pos hz] at q'; exact q'.elim
        · rw [if_neg hz] at q'
          rw [Bool.not_eq_true, Bool.or_eq_false_iff] at hz
          exact ⟨hz.1, hz.2, q'⟩
  · rw [if_neg hn] at q'; exact q'.elim
theorem ge_call {dvs : List V} {dsv : List Value} {dd : List D} (tk : Takes X W) (hgd : X.A.guards = some []) (F : FnD X.prog X.w X.K X.mg X.base k f fd ps fden) (hr : Room k X.A) (hm : X.mg x = some (.ref f)) (hk : PySem.W.keepIn X.K (.ref f) = true) (hb : Binds X.K fd ps dsv) (hd : Vals dvs dsv) (hdd : ∀ F H, RpL X.K X.mg F H dd dvs [])
    (ha : GA X W (e :: es) da) (hg : Gl X x := by rfl) (hdb : (x == ("__debug__" : Str)) = false := by decide) (he : starEach (e :: es) X.env = (false, eval e X.env) :: starEach es X.env := by rfl) (hpl : (backTo pos (starEach es X.env)).any (·.1) = false := by rfl) :
    GE X W (.Call (.Name x p) (e :: es) [] pos) (dFn ps.length fden dd da) :=
  PE.imp (pe_callG (E := WE W) F hr hgd hg hm hk hb hd (fun σ => passAt tk σ) ha hdb he hpl) fun σ H Q h => call_imp hdd h
/-- no defaults -/
theorem ge_call' (tk : Takes X W) (hgd : X.A.guards = some []) (F : FnD X.prog X.w X.K X.mg X.base k f fd ps fden) (hr : Room k X.A) (hm : X.mg x = some (.ref f)) (hk : PySem.W.keepIn X.K (.ref f) = true) (hb : Binds X.K fd ps [])
    (ha : GA X W (e :: es) da) (hg : Gl X x := by rfl) (hdb : (x == ("__debug__" : Str)) = false := by decide) (he : starEach (e :: es) X.env = (false, eval e X.env) :: starEach es X.env := by rfl) (hpl : (backTo pos (starEach es X.env)).any (·.1) = false := by rfl) :
    GE X W (.Call (.Name x p) (e :: es) [] pos) (dFn ps.length fden [] da) :=
  ge_call tk hgd F hr hm hk hb .nil (fun _ _ => by unfold RpL; exact ⟨rfl, rfl⟩) ha hg hdb he hpl
/-- what never raises takes everything -/
theorem takes_no : Takes X (fun _ _ _ _ => False) := fun u s' ⟨_, _, _, _, _, _, _, _, _, _, _, _, _, _, _, _, w⟩ => w.elim

/-! ### targets -/
@[simp] def tgName (i : Nat) : D → List D → Option (List D) := fun d env => some (env.set i d)
theorem gg_name (i : Nat) {x : Str} (hN : X.N.Nodup) (hi : X.N[i]? = some x := by rfl) (hx : Loc X.env.scope x := by first | exact Or.inl rfl | exact Or.inr rfl) (hp : P.contains i = false := by rfl) (hf : X.fn x = true ∨ X.env.scope.names.lookup x = some .local := by first | exact .inl rfl | exact .inr rfl) : GG X P [i] (.Name x pos) (tgName i) :=
  PG.imp (pg_name hN hi hx hf) fun v σ H Q ⟨B, F, env, ts, vs, d, e1, hpp, na, R, hd, eg, q⟩ => by
    cases eg
    refine q _ H F ⟨by simp, fun j hj => ?_⟩ (R.store (pin_ne hpp hp) hd na)
    rw [List.getElem?_set_ne fun z => hj (by rw [z]; exact List.mem_cons_self)]
/-- several targets for several trees -/
@[simp] def tgAll : List (D → List D → Option (List D)) → List D → List D → Option (List D)
  | [], [], env => some env
  | g :: gs, d :: ds, env => (g d env).bind fun e1 => tgAll gs ds e1
  | _, _, _ => none
@[simp] def tgTup (gs : List (D → List D → Option (List D))) : D → List D → Option (List D) := fun d env => match d with
  | .tup xs => if frozL xs then tgAll gs xs env else none
  | _ => none
def rdGs (K : PySem.W.Frag) (mg : Str → Option Value) (P T : List Nat) (gs : List (D → List D → Option (List D))) : TGs := fun vs0 σ H Q => ∃ B F env ts vs ds e1, B.pins.map (·.1) = P ∧ noAl ts ∧ RE K mg B σ H F env (ts ++ ds) (vs ++ vs0) ∧ ds.length = vs0.length ∧ frozL ds = true ∧ tgAll gs ds env = some e1 ∧ ∀ σ' H' F', SameS T σ σ' → RE K mg B σ' H' F' e1 ts vs → Q σ' H'
abbrev GGs (X : Cx) (P T : List Nat) (tgs : List Expr) (gs : List (D → List D → Option (List D))) : Prop := PGs X tgs (rdGs X.K X.mg P T gs)
theorem PGs.imp {X : Cx} {tg : List Expr} {t t' : TGs} (h : PGs X tg t) (k : ∀ v σ H Q, t' v σ H Q → t v σ H Q) : PGs X tg t' := ⟨fun pins s σ H v u Q I r q => h.run pins s σ H v u Q I r (k v σ H Q q)⟩
theorem froz_sl {d : D} (h : froz d = true) : ∀ i, d ≠ .sl i := fun i z => by rw [z] at h; cases h
theorem frozL_mem : ∀ {ds : List D}, frozL ds = true → ∀ d ∈ ds, froz d = true
  | [], _, d, h => absurd h List.not_mem_nil
  | x :: xs, z, d, h => by
    unfold frozL at z
    rw [Bool.and_eq_true] at z
    rcases List.mem_cons.mp h with e | h
    · rw [e]; exact z.1
    · exact frozL_mem z.2 d h
theorem ggs_nil : GGs X P [] [] [] := PGs.imp pgs_nil fun v σ H Q ⟨B, F, env, ts, vs, ds, e1, hpp, na, R, hl, hf, eg, q⟩ => by
  cases ds with
  | nil =>
    have e0 : v = [] := List.length_eq_zero_iff.mp hl.symm
    subst e0
    cases eg
    rw [List.append_nil, List.append_nil] at R
    exact ⟨rfl, q σ H F ⟨rfl, fun _ _ => rfl⟩ R⟩
  | cons d ds => cases eg
theorem RE.swap {K : PySem.W.Frag} {mg : Str → Option Value} {B : Bd} {σ : St} {F H : Hp} {env ts us : List D} {vs ws : List V} {d : D} {v : V} (R : RE K mg B σ H F env (ts ++ d :: us) (vs ++ v :: ws)) (hl : us.length = ws.length) (h1 : froz d = true) (h2 : frozL us = true) : RE K mg B σ H F env (ts ++ us ++ [d]) (vs ++ ws ++ [v]) := by
  have R0 : RE K mg B σ H F env ((ts ++ [d]) ++ us) ((vs ++ [v]) ++ ws) := by rw [List.append_assoc, List.append_assoc]; exact R
  have R1 := R0.drop hl
  obtain ⟨S, rd⟩ := R1.last (d := d) (by rw [rs_ne (froz_sl h1)]; intro z; rw [z] at h1; cases h1)
  rw [rs_ne (froz_sl h1)] at rd
  have e0 := rd.froz h1
  subst e0
  have R2 := R1.drop (us := [d]) (ws := [v]) rfl
  -- the others one by one
  have go : ∀ {us : List D} {ws : List V} {ts ts2 : List D} {vs vs2 : List V}, us.length = ws.length → frozL us = true → RE K mg B σ H F env (ts ++ us) (vs ++ ws) → RE K mg B σ H F env ts2 vs2 → RE K mg B σ H F env (ts2 ++ us) (vs2 ++ ws) := by
    intro us
    induction us with
    | nil => intro ws ts ts2 vs vs2 h _ _ z; cases ws with
      | nil => rw [List.append_nil, List.append_nil]; exact z
      | cons _ _ => cases h
    | cons u us ih =>
      intro ws ts ts2 vs vs2 h hf ra rb
      cases ws with
      | nil => cases h
      | cons y ws =>
        unfold frozL at hf
        rw [Bool.and_eq_true] at hf
        have ra' : RE K mg B σ H F env ((ts ++ [u]) ++ us) ((vs ++ [y]) ++ ws) := by rw [List.append_assoc, List.append_assoc]; exact ra
        have hl2 : us.length = ws.length := by simpa using h
        obtain ⟨S, ru⟩ := (ra'.drop hl2).last (d := u) (by rw [rs_ne (froz_sl hf.1)]; intro z; rw [z] at hf; cases hf.1)
        rw [rs_ne (froz_sl hf.1)] at ru
        have e1 := ru.froz hf.1
        subst e1
        have z := ih hl2 hf.2 ra' (rb.push0 (Tm.of ru))
        rw [List.append_assoc, List.append_assoc] at z
        exact z
  exact (go hl h2 R0 R2).push0 (Tm.of rd)
theorem ggs_cons {es : List Expr} {T1 T2 : List Nat} {g : D → List D → Option (List D)} {gs : List (D → List D → Option (List D))} (h1 : GG X P T1 e g) (h2 : GGs X P T2 es gs) (hs : (assignEach (e :: es) X.env).map (·.2) = assign e X.env :: (assignEach es X.env).map (·.2) := by rfl) : GGs X P (T1 ++ T2) (e :: es) (g :: gs) :=
  PGs.imp (pgs_cons h1 h2 hs) fun v σ H Q ⟨B, F, env, ts, vs, ds, e1, hpp, na, R, hl, hf, eg, q⟩ => by
    cases ds with
    | nil => cases eg
    | cons d ds =>
      cases v with
      | nil => cases hl
      | cons v0 vr =>
        unfold frozL at hf
        rw [Bool.and_eq_true] at hf
        have hl2 : ds.length = vr.length := by simpa using hl
        have eg' : ((g d env).bind fun e1 => tgAll gs ds e1) = some e1 := eg
        cases e2 : g d env with
        | none => rw [e2] at eg'; cases eg'
        | some e3 =>
          rw [e2] at eg'
          have nal : noAl (ts ++ ds) := fun x hx => (List.mem_append.mp hx).elim (na x) fun z => froz_sl (frozL_mem hf.2 x z)
          refine ⟨v0, vr, rfl, B, F, env, ts ++ ds, vs ++ vr, d, e3, hpp, nal, R.swap hl2 hf.1 hf.2, froz_sl hf.1, e2, fun σ' H' F' s1 R' => ?_⟩
          exact ⟨B, F', e3, ts, vs, ds, e1, hpp, na, R', hl2, hf.2, eg', fun σ2 H2 F2 s2 R2 => q σ2 H2 F2 ⟨s2.1.trans s1.1, fun j hj => (s2.2 j fun z => hj (List.mem_append_right _ z)).trans (s1.2 j fun z => hj (List.mem_append_left _ z))⟩ R2⟩
theorem gg_tup {es : List Expr} {T : List Nat} {gs : List (D → List D → Option (List D))} {kk : Nat} (hc : X.calm = true) (h : GGs X P T es gs) (hl : (assignEach es X.env).length = gs.length := by rfl) (hst : (assignEach es X.env).findIdx? (·.1) = none := by rfl) : GG X P T (.Tuple es kk pos) (tgTup gs) :=
  PG.imp (pg_tup (n := gs.length) hc h hl hst) fun v σ H Q ⟨B, F, env, ts, vs, d, e1, hpp, na, R, hd, eg, q⟩ => by
    cases d with
    | tup xs =>
      have eg' : (if frozL xs then tgAll gs xs env else none) = some e1 := eg
      cases hf : frozL xs with
      | false => rw [hf, if_neg Bool.false_ne_true] at eg'; cases eg'
      | true =>
        rw [hf, if_pos rfl] at eg'
        obtain ⟨S, rd⟩ := R.last (d := .tup xs) (fun z => nomatch z)
        have rd' : Rp X.K X.mg F H (.tup xs) v S := rd
        unfold Rp at rd'
        obtain ⟨a, ws, rfl, rl, sq⟩ := rd'
        have e0 := rl.froz hf
        subst e0
        refine ⟨a, ws, rfl, R.ex.sqT sq, ?_, B, F, env, ts, vs, xs, e1, hpp, na, ?_, rl.len, hf, eg', q⟩
        · have len : ∀ {gs : List (D → List D → Option (List D))} {xs env e1 : List D}, tgAll gs xs env = some e1 → xs.length = gs.length := by
            intro gs
            induction gs with
            | nil => intro xs env e1 h; cases xs with
              | nil => rfl
              | cons _ _ => cases h
            | cons g gs ih => intro xs env e1 h; cases xs with
              | nil => cases h
              | cons x xs =>
                have h' : ((g x env).bind fun e1 => tgAll gs xs e1) = some e1 := h
                cases e2 : g x env with
                | none => rw [e2] at h'; cases h'
                | some e3 => rw [e2] at h'; rw [List.length_cons, List.length_cons, ih h']
          rw [← rl.len, len eg']
        · have go : ∀ {xs : List D} {ws : List V} {ts : List D} {vs : List V}, RpL X.K X.mg F H xs ws [] → RE X.K X.mg B σ H F env ts vs → RE X.K X.mg B σ H F env (ts ++ xs) (vs ++ ws) := by
            intro xs
            induction xs with
            | nil => intro ws ts vs h r; unfold RpL at h; rw [h.1, List.append_nil, List.append_nil]; exact r
            | cons x xs ih =>
              intro ws ts vs h r
              unfold RpL at h
              obtain ⟨y, rr, S1, S2, rfl, e2, p1, p2⟩ := h
              obtain ⟨rfl, rfl⟩ := List.append_eq_nil_iff.mp e2.symm
              have z := ih p2 (r.push0 (Tm.of p1))
              rw [List.append_assoc, List.append_assoc] at z
              exact z
          exact go rl (R.drop rfl)
    | _ => cases eg
/-- target = value, a target that is no name -/
@[simp] def nAsgT (g : D → List D → Option (List D)) (a : Dn D) : Sn := fun env => (dU a env).out fun d e => match g d e with
  | some e1 => .nx e1
  | none => .no
theorem gs_asg {tg : Expr} {T : List Nat} {g : D → List D → Option (List D)} (h : GEU X W e (dU dn)) (hg : GG X P T tg g) (hs : swapsWithSole [tg] e pos.line X.env = pure false := by rfl) (hw : swappedStores [tg] e X.env = pure none := by rfl)
    (h1 : (assignEach [tg] X.env).map (·.2) = [assign tg X.env] := by rfl) : GS X W P (.Assign [tg] e pos) (nAsgT g dn) := by
  refine PS.imp (ps_asg h hg hs hw h1) fun T σ H ⟨B, F, env, ts, vs, hpp, na, R, q⟩ => ?_
  refine ⟨B, F, env, ts, vs, R, (ResP.out q).mono (fun d e1 h1 v H1 F1 hd R1 => ?_) fun _ _ _ _ z => z⟩
  cases eg : g d e1 with
  | none => rw [eg] at h1; exact h1.elim
  | some e2 =>
    rw [eg] at h1
    exact ⟨B, F1, e1, ts, vs, d, e2, hpp, na, R1, hd, eg, fun σ' H' F' _ R' => h1 σ' H' F' R'⟩

/-! ### what is walked -/
def itSeq (a : Dn D) : Dn (List D × List D) := (dU a).bind fun d env => match fz d with
  | .lst false xs => if frozL xs then .ok ([.lst false xs], xs) env else .no
  | .tup xs => if frozL xs then .ok ([.tup xs], xs) env else .no
  | _ => .no
def isLst : D → Bool
  | .lst _ _ => true
  | _ => false
@[simp] def itLst (a : Dn D) : Dn (List D × List D) := (dU a).bind fun d env => match d with
  | .lst o xs => if frozL (fzL xs) then .ok ([.lst false (fzL xs)], fzL xs) env else .no
  | .scr ns => .ok ([.scr ns], ns.map .int) env
  | _ => .no
@[simp] def itTup (a : Dn D) : Dn (List D × List D) := (dU a).bind fun d env => match d with
  | .tup xs => if frozL xs then .ok ([.tup xs], xs) env else .no
  | _ => .no
theorem RpL.get {K : PySem.W.Frag} {mg : Str → Option Value} {F H : Hp} : ∀ {ds : List D} {vs : List V} {k : Nat} {d : D}, RpL K mg F H ds vs [] → ds[k]? = some d → ∃ v, vs[k]? = some v ∧ Rp K mg F H d v []
  | [], _, _, _, _, e => by simp at e
  | x :: xs, vs, k, d, h, e => by
    unfold RpL at h
    obtain ⟨v, r, S1, S2, rfl, e2, h1, h2⟩ := h
    obtain ⟨rfl, rfl⟩ := List.append_eq_nil_iff.mp e2.symm
    cases k with
    | zero => cases e; exact ⟨v, rfl, h1⟩
    | succ k => exact RpL.get (ds := xs) (k := k) h2 (by rw [List.getElem?_cons_succ] at e; exact e)
theorem itok_list {K : PySem.W.Frag} {mg : Str → Option Value} {a : Addr} {xs : List D} {b : Bool} (hf : frozL xs = true) : ItOK K mg (Itl K a) [.lst false xs] [.ref a] xs := by
  intro B σ H F env ts ms vs ns k hm R
  obtain ⟨S, rd⟩ := (R.drop hm).last (d := .lst false xs) (fun z => nomatch z)
  have rd' : Rp K mg F H (.lst false xs) (.ref a) S := rd
  unfold Rp at rd'
  obtain ⟨a', ws, S', e, rl, ho⟩ := rd'
  cases e
  rw [if_neg Bool.false_ne_true] at ho
  obtain ⟨sq, rfl, _⟩ := ho
  have sqH : SqL K H a ws := Or.inl (Or.inl (R.ex _ _ sq))
  refine ⟨fun x hx => ?_, fun hk => ⟨ws, sqH, by rw [← rl.len]; exact hk⟩⟩
  obtain ⟨v, ev, rp⟩ := rl.get hx
  refine ⟨⟨ws, v, sqH, ev⟩, fun u H1 ⟨e1, y⟩ => ?_⟩
  subst e1
  have e2 := y ws sqH
  rw [ev] at e2
  cases e2
  exact ⟨F, R.push0 (Tm.of rp)⟩
theorem itok_tup {K : PySem.W.Frag} {mg : Str → Option Value} {a : Addr} {xs : List D} (hf : frozL xs = true) : ItOK K mg (Itt K a) [.tup xs] [.ref a] xs := by
  intro B σ H F env ts ms vs ns k hm R
  obtain ⟨S, rd⟩ := (R.drop hm).last (d := .tup xs) (fun z => nomatch z)
  have rd' : Rp K mg F H (.tup xs) (.ref a) S := rd
  unfold Rp at rd'
  obtain ⟨a', ws, e, rl, sq⟩ := rd'
  cases e
  have e0 := rl.froz hf
  subst e0
  have sqH := R.ex.sqT sq
  refine ⟨fun x hx => ?_, fun hk => ⟨ws, sqH, by rw [← rl.len]; exact hk⟩⟩
  obtain ⟨v, ev, rp⟩ := rl.get hx
  refine ⟨⟨ws, v, sqH, ev⟩, fun u H1 ⟨e1, y⟩ => ?_⟩
  subst e1
  have e2 := y ws sqH
  rw [ev] at e2
  cases e2
  exact ⟨F, R.push0 (Tm.of rp)⟩
theorem RpL.dints {K : PySem.W.Frag} {mg : Str → Option Value} {F H : Hp} : ∀ ns : List Int, RpL K mg F H (ns.map .int) (ns.map V.int) []
  | [] => by unfold RpL; exact ⟨rfl, rfl⟩
  | n :: ns => by
    rw [List.map_cons, List.map_cons]
    unfold RpL
    exact ⟨.int n, _, [], [], rfl, rfl, rp_int, RpL.dints ns⟩
theorem itok_scr {K : PySem.W.Frag} {mg : Str → Option Value} {a : Addr} {ns : List Int} : ItOK K mg (Itl K a) [.scr ns] [.ref a] (ns.map .int) := by
  intro B σ H F env ts ms vs rs k hm R
  obtain ⟨S, rd⟩ := (R.drop hm).last (d := .scr ns) (fun z => nomatch z)
  have rd' : Rp K mg F H (.scr ns) (.ref a) S := rd
  unfold Rp at rd'
  obtain ⟨_, a', e, sq⟩ := rd'
  cases e
  have sqH : SqL K H a (ns.map V.int) := R.ex.sqL sq
  refine ⟨fun x hx => ?_, fun hk => ⟨_, sqH, by rw [List.length_map] at hk ⊢; exact hk⟩⟩
  obtain ⟨v, ev, rp⟩ := (RpL.dints (K := K) (mg := mg) (F := F) (H := H) ns).get hx
  refine ⟨⟨_, v, sqH, ev⟩, fun u H1 ⟨e1, y⟩ => ?_⟩
  subst e1
  have e2 := y _ sqH
  rw [ev] at e2
  cases e2
  exact ⟨F, R.push0 (Tm.of rp)⟩
theorem noAl_froz {ds : List D} (h : frozL ds = true) : noAl ds := fun d hd => froz_sl (frozL_mem h d hd)
theorem gi_list {tg : Expr} (h : GEU X W e (dU dn)) : GI X W tg e (itLst dn) := by
  refine PI.imp (pi_list h) fun σ H R ⟨B, F, env, ts, vs, r, q⟩ => ?_
  refine ⟨B, F, env, ts, vs, r, (ResP.bind q).mono (fun d e1 q1 v H1 F1 hd R1 => ?_) fun _ _ _ _ z => z⟩
  cases d with
  | lst o xs =>
    dsimp only at q1
    cases hf : frozL (fzL xs) with
    | false => rw [hf, if_neg Bool.false_ne_true] at q1; exact q1.elim
    | true =>
      rw [hf, if_pos rfl] at q1
      obtain ⟨F2, R2, rp⟩ := R1.fzLast hd
      have rp' := rp
      unfold fz Rp at rp'
      obtain ⟨a, ws, S', rfl, rl, ho⟩ := rp'
      rw [if_neg Bool.false_ne_true] at ho
      have fz1 : frozL [D.lst false (fzL xs)] = true := by unfold frozL froz; rw [hf]; rfl
      exact ⟨a, rfl, ⟨ws, Or.inl (Or.inl (R2.ex _ _ ho.1))⟩, q1 _ [.ref a] H1 F2 rfl (noAl_froz fz1) (noAl_froz hf) R2 (itok_list (b := true) hf)⟩
  | scr ns =>
    obtain ⟨S, rp⟩ := R1.last (d := .scr ns) (fun z => nomatch z)
    have rp' : Rp X.K X.mg F1 H1 (.scr ns) v S := rp
    unfold Rp at rp'
    obtain ⟨_, a, rfl, sq⟩ := rp'
    have fz1 : frozL [D.scr ns] = true := rfl
    have fz2 : noAl (ns.map D.int) := fun d hd i z => by
      obtain ⟨n, _, rfl⟩ := List.mem_map.mp hd
      cases z
    exact ⟨a, rfl, ⟨_, R1.ex.sqL sq⟩, q1 _ [.ref a] H1 F1 rfl (noAl_froz fz1) fz2 R1 itok_scr⟩
  | _ => exact q1.elim
theorem gi_tup {tg : Expr} (h : GEU X W e (dU dn)) : GI X W tg e (itTup dn) := by
  refine PI.imp (pi_tup h) fun σ H R ⟨B, F, env, ts, vs, r, q⟩ => ?_
  refine ⟨B, F, env, ts, vs, r, (ResP.bind q).mono (fun d e1 q1 v H1 F1 hd R1 => ?_) fun _ _ _ _ z => z⟩
  cases d with
  | tup xs =>
    dsimp only at q1
    cases hf : frozL xs with
    | false => rw [hf, if_neg Bool.false_ne_true] at q1; exact q1.elim
    | true =>
      rw [hf, if_pos rfl] at q1
      obtain ⟨S, rp⟩ := R1.last (d := .tup xs) (fun z => nomatch z)
      have rp' : Rp X.K X.mg F1 H1 (.tup xs) v S := rp
      unfold Rp at rp'
      obtain ⟨a, ws, rfl, rl, sq⟩ := rp'
      have fz1 : frozL [D.tup xs] = true := by unfold frozL froz; rw [hf]; rfl
      exact ⟨a, rfl, ⟨ws, R1.ex.sqT sq⟩, q1 _ [.ref a] H1 F1 rfl (noAl_froz fz1) (noAl_froz hf) R1 (itok_tup hf)⟩
  | _ => exact q1.elim
/-- range(n), range(a, b) -/
def dints (lo : Int) (n : Nat) : List D := (List.range n).map fun (i : Nat) => D.int (lo + (i : Int))
@[simp] def itRng1 (r : Dn (List D)) : Dn (List D × List D) := r.bind fun ds env => match ds.map (rs env) with
  | [.int j] => if -(2 ^ 62) ≤ j ∧ j < 2 ^ 62 then .ok ([], dints 0 j.toNat) env else .no
  | _ => .no
@[simp] def itRng2 (r : Dn (List D)) : Dn (List D × List D) := r.bind fun ds env => match ds.map (rs env) with
  | [.int i, .int j] => if -(2 ^ 62) ≤ i ∧ i < 2 ^ 62 ∧ -(2 ^ 62) ≤ j ∧ j < 2 ^ 62 then .ok ([], dints i (j - i).toNat) env else .no
  | _ => .no
theorem itok_rng {K : PySem.W.Frag} {mg : Str → Option Value} {lo : Int} {n : Nat} : ItOK K mg (Itr lo n) [] [] (dints lo n) := by
  intro B σ H F env ts ms vs ns k hm R
  unfold dints
  refine ⟨fun x hx => ?_, fun hk => (show n ≤ k by simpa using hk)⟩
  rw [List.getElem?_map] at hx
  by_cases hk : k < n
  · rw [List.getElem?_range hk] at hx
    cases hx
    refine ⟨hk, fun v H1 ⟨e1, e2⟩ => ?_⟩
    subst e1 e2
    exact ⟨F, R.push0 (Tm.of rp_int)⟩
  · rw [List.getElem?_eq_none (by simpa using hk)] at hx
    cases hx
theorem noAl_ints {lo : Int} {n : Nat} : noAl (dints lo n) := fun d hd i z => by
  unfold dints at hd
  obtain ⟨j, _, rfl⟩ := List.mem_map.mp hd
  cases z
theorem AllRp.int1 {K : PySem.W.Frag} {mg : Str → Option Value} {F H : Hp} {ws : List V} {j : Int} (h : AllRp K mg F H [.int j] ws) : ws = [.int j] := by
  unfold AllRp at h
  obtain ⟨v, r, rfl, ⟨S, rp⟩, h2⟩ := h
  unfold AllRp at h2
  unfold Rp at rp
  rw [h2, rp.1]
theorem AllRp.int2 {K : PySem.W.Frag} {mg : Str → Option Value} {F H : Hp} {ws : List V} {i j : Int} (h : AllRp K mg F H [.int i, .int j] ws) : ws = [.int i, .int j] := by
  unfold AllRp at h
  obtain ⟨v, r, rfl, ⟨S, rp⟩, h2⟩ := h
  unfold Rp at rp
  rw [h2.int1, rp.1]
theorem gi_rng1 {tg : Expr} (hm : X.mg "range" = none) (h : GA X W [e] da) (hg : Gl X "range" := by rfl) (hs : starEach [e] X.env = [(false, eval e X.env)] := by rfl) : GI X W tg (.Call (.Name "range" p) [e] [] pos) (itRng1 da) := by
  refine PI.imp (pi_range1 hg hm h hs) fun σ H R ⟨B, F, env, ts, vs, r, q⟩ => ?_
  refine ⟨B, F, env, ts, vs, r, (ResP.bind q).mono (fun ds e1 q1 ws H1 F1 hl R1 => ?_) fun _ _ _ _ z => z⟩
  split at q1
  · rename_i j he
    have al := all_rp hl R1 (by rw [he]; rfl)
    rw [he] at al
    by_cases hj : -(2 ^ 62) ≤ j ∧ j < 2 ^ 62
    · rw [if_pos hj] at q1
      exact ⟨j, al.int1, hj.1, hj.2, q1 _ [] H1 F1 rfl (fun d hd => absurd hd List.not_mem_nil) noAl_ints (by rw [List.append_nil, List.append_nil]; exact R1.drop hl) itok_rng⟩
    · rw [if_neg hj] at q1; exact q1.elim
  · exact q1.elim
theorem gi_rng2 {tg : Expr} (hm : X.mg "range" = none) (h : GA X W [e, a] da) (hg : Gl X "range" := by rfl) (hs : starEach [e, a] X.env = [(false, eval e X.env), (false, eval a X.env)] := by rfl) (hs2 : starEach [a] X.env = [(false, eval a X.env)] := by rfl) : GI X W tg (.Call (.Name "range" p) [e, a] [] pos) (itRng2 da) := by
  refine PI.imp (pi_range2 hg hm h hs hs2) fun σ H R ⟨B, F, env, ts, vs, r, q⟩ => ?_
  refine ⟨B, F, env, ts, vs, r, (ResP.bind q).mono (fun ds e1 q1 ws H1 F1 hl R1 => ?_) fun _ _ _ _ z => z⟩
  split at q1
  · rename_i i j he
    have al := all_rp hl R1 (by rw [he]; rfl)
    rw [he] at al
    by_cases hj : -(2 ^ 62) ≤ i ∧ i < 2 ^ 62 ∧ -(2 ^ 62) ≤ j ∧ j < 2 ^ 62
    · rw [if_pos hj] at q1
      exact ⟨i, j, al.int2, hj, q1 _ [] H1 F1 rfl (fun d hd => absurd hd List.not_mem_nil) noAl_ints (by rw [List.append_nil, List.append_nil]; exact R1.drop hl) itok_rng⟩
    · rw [if_neg hj] at q1; exact q1.elim
  · exact q1.elim
end
end DL
set_option Elab.async false
set_option linter.all false
set_option maxRecDepth 100000
set_option maxHeartbeats 2000000
/-! DLg: operators and built-ins on trees. -/
namespace DL
open PySem L2

/-! ### ints -/
def fInt (g : Int → Int → D) : D → D → Option D
  | .int i, .int j => some (g i j)
  | _, _ => none
def fIntC (c : Int → Int → Bool) (g : Int → Int → D) : D → D → Option D
  | .int i, .int j => if c i j then some (g i j) else none
  | _, _ => none
section
variable {K : PySem.W.Frag} {mg : Str → Option Value} {X : Cx}
theorem os_int {g : Int → Int → V} {g' : Int → Int → D} (h : ∀ i j F H, Rp K mg F H (g' i j) (g i j) []) : OpS K mg (rI0 g) (fInt g') := by
  intro B σ H F env ts vs dx dy vx vy Sx Sy d Q R h1 h2 e k
  cases dx with
  | int i =>
    cases dy with
    | int j =>
      cases e
      unfold Rp at h1 h2
      exact ⟨i, j, h1.1, h2.1, k _ H F (R.push0 (Tm.of (h i j F H)))⟩
    | _ => cases e
  | _ => cases e
theorem os_intC {C : Int → Int → Prop} {c : Int → Int → Bool} {g : Int → Int → V} {g' : Int → Int → D} (hc : ∀ i j, c i j = true → C i j) (h : ∀ i j F H, Rp K mg F H (g' i j) (g i j) []) : OpS K mg (rI C g) (fIntC c g') := by
  intro B σ H F env ts vs dx dy vx vy Sx Sy d Q R h1 h2 e k
  cases dx with
  | int i =>
    cases dy with
    | int j =>
      have e' : (if c i j then some (g' i j) else none) = some d := e
      cases hcc : c i j with
      | false => rw [hcc, if_neg Bool.false_ne_true] at e'; cases e'
      | true =>
        rw [hcc, if_pos rfl] at e'
        cases e'
        unfold Rp at h1 h2
        exact ⟨i, j, h1.1, h2.1, hc i j hcc, k _ H F (R.push0 (Tm.of (h i j F H)))⟩
    | _ => cases e
  | _ => cases e
theorem rpi {i : Int} {F H : Hp} : Rp K mg F H (.int i) (.int i) [] := rp_int
theorem rpb {b : Bool} {F H : Hp} : Rp K mg F H (.bl b) (.bl b) [] := rp_bl

/-! ### + : ints, lists, texts, tuples -/
def fCat : D → D → Option D
  | .lst _ xs, .lst _ ys => if frozL xs && frozL ys && decide (xs.length + ys.length ≤ sizeLine) then some (.lst true (xs ++ ys)) else none
  | _, _ => none
def fCatT : D → D → Option D
  | .tup xs, .tup ys => if frozL xs && frozL ys && decide (xs.length + ys.length ≤ sizeLine) then some (.tup (xs ++ ys)) else none
  | _, _ => none
def fCatS : D → D → Option D
  | .str x, .str y => if x.length + y.length ≤ sizeLine then some (.str (x ++ y)) else none
  | _, _ => none
theorem lst_inv {o : Bool} {xs : List D} {F H : Hp} {v : V} {S : List Addr} (h : Rp K mg F H (.lst o xs) v S) (e : Ex F H) : ∃ a vs S', v = .ref a ∧ RpL K mg F H xs vs S' ∧ H a = some (.lst vs) := by
  unfold Rp at h
  obtain ⟨a, vs, S', rfl, hl, ho⟩ := h
  cases o with
  | true => rw [if_pos rfl] at ho; exact ⟨a, vs, S', rfl, hl, ho.1⟩
  | false => rw [if_neg Bool.false_ne_true] at ho; exact ⟨a, vs, S', rfl, hl, e _ _ ho.1⟩
theorem lst_inv0 {o : Bool} {xs : List D} {F H : Hp} {v : V} {S : List Addr} (h : Rp K mg F H (.lst o xs) v S) (e : Ex F H) (hf : frozL xs = true) : ∃ a vs, v = .ref a ∧ RpL K mg F H xs vs [] ∧ H a = some (.lst vs) := by
  obtain ⟨a, vs, S', e1, hl, hs⟩ := lst_inv h e
  have e0 := hl.froz hf
  subst e0
  exact ⟨a, vs, e1, hl, hs⟩
theorem tup_inv0 {xs : List D} {F H : Hp} {v : V} {S : List Addr} (h : Rp K mg F H (.tup xs) v S) (e : Ex F H) (hf : frozL xs = true) : ∃ a vs, v = .ref a ∧ RpL K mg F H xs vs [] ∧ SqT K H a vs ∧ Rp K mg F H (.tup xs) v [] := by
  have h0 := h
  unfold Rp at h
  obtain ⟨a, vs, e1, hl, hs⟩ := h
  have e0 := hl.froz hf
  subst e0
  exact ⟨a, vs, e1, hl, e.sqT hs, h0⟩
theorem frozL_app : ∀ {xs ys : List D}, frozL (xs ++ ys) = (frozL xs && frozL ys)
  | [], ys => by rw [List.nil_append]; unfold frozL; cases ys <;> rfl
  | x :: xs, ys => by
    show (froz x && frozL (xs ++ ys)) = _
    rw [frozL_app]
    show _ = ((froz x && frozL xs) && frozL ys)
    rw [Bool.and_assoc]
theorem os_cat : OpS K mg L2.rCat fCat := by
  intro B σ H F env ts vs dx dy vx vy Sx Sy d Q R h1 h2 e k
  cases dx with
  | lst o xs =>
    cases dy with
    | lst o2 ys =>
      have e' : (if frozL xs && frozL ys && decide (xs.length + ys.length ≤ sizeLine) then some (D.lst true (xs ++ ys)) else none) = some d := e
      split at e'
      · rename_i hc
        rw [Bool.and_eq_true, Bool.and_eq_true] at hc
        cases e'
        obtain ⟨a, us, rfl, rl, s1⟩ := lst_inv0 h1 R.ex hc.1.1
        obtain ⟨b, ws, rfl, rl2, s2⟩ := lst_inv0 h2 R.ex hc.1.2
        have hz := of_decide_eq_true hc.2
        rw [rl.len, rl2.len] at hz
        exact ⟨a, b, us, ws, rfl, rfl, s1, s2, hz, fun p hp => k _ _ _ (R.newLst0 (rl.append rl2) hp)⟩
      · cases e'
    | _ => cases e
  | _ => cases e
theorem os_catT : OpS K mg (L2.rCatA K) fCatT := by
  intro B σ H F env ts vs dx dy vx vy Sx Sy d Q R h1 h2 e k
  cases dx with
  | tup xs =>
    cases dy with
    | tup ys =>
      have e' : (if frozL xs && frozL ys && decide (xs.length + ys.length ≤ sizeLine) then some (D.tup (xs ++ ys)) else none) = some d := e
      split at e'
      · rename_i hc
        rw [Bool.and_eq_true, Bool.and_eq_true] at hc
        cases e'
        obtain ⟨a, us, rfl, rl, s1, t1⟩ := tup_inv0 h1 R.ex hc.1.1
        obtain ⟨b, ws, rfl, rl2, s2, t2⟩ := tup_inv0 h2 R.ex hc.1.2
        have hz := of_decide_eq_true hc.2
        rw [rl.len, rl2.len] at hz
        refine ⟨a, b, us, ws, rfl, rfl, s1, s2, hz, fun h0 => ?_, fun _ h0 => ?_, fun _ _ p hp => ?_⟩
        · subst h0
          have x0 : xs = [] := List.length_eq_zero_iff.mp rl.len
          subst x0
          exact k _ H F (R.push0 (Tm.of t2))
        · subst h0
          have y0 : ys = [] := List.length_eq_zero_iff.mp rl2.len
          subst y0
          refine k _ H F (R.push0 (Tm.of ?_))
          rw [List.append_nil]
          exact t1
        · have R2 := R.newF (o := .tup (us ++ ws)) hp
          refine k _ _ _ (R2.push0 (Tm.of ?_))
          unfold Rp
          exact ⟨p, us ++ ws, rfl, (rl.append rl2).stay (Ex.new (R.ex.none hp)) fun a ha => absurd ha List.not_mem_nil, Or.inl (Or.inl upd_same)⟩
      · cases e'
    | _ => cases e
  | _ => cases e
theorem os_catS : OpS K mg (fun x y H Q => ∃ i j, x = .str i ∧ y = .str j ∧ i.length + j.length ≤ sizeLine ∧ Q (.str (i ++ j)) H) fCatS := by
  intro B σ H F env ts vs dx dy vx vy Sx Sy d Q R h1 h2 e k
  cases dx with
  | str x =>
    cases dy with
    | str y =>
      have e' : (if x.length + y.length ≤ sizeLine then some (D.str (x ++ y)) else none) = some d := e
      split at e'
      · rename_i hz
        cases e'
        unfold Rp at h1 h2
        exact ⟨x, y, h1.1, h2.1, hz, k _ H F (R.push0 (Tm.of rp_str))⟩
      · cases e'
    | _ => cases e
  | _ => cases e
def fAdd : D → D → Option D := fOr (fInt fun i j => .int (i + j)) (fOr fCat (fOr fCatT fCatS))
def rAddA (K : PySem.W.Frag) : R2 := fun x y H Q => rI0 (fun i j => .int (i + j)) x y H Q ∨ L2.rCat x y H Q ∨ L2.rCatA K x y H Q ∨ ∃ i j, x = .str i ∧ y = .str j ∧ i.length + j.length ≤ sizeLine ∧ Q (.str (i ++ j)) H
theorem os_add : OpS K mg (rAddA K) fAdd := OpS.or (os_int fun i j F H => rpi) (OpS.or os_cat (OpS.or os_catT os_catS))
theorem op_addA : OpR X (binaryOp .Add) (rAddA X.K) := OpR.or op_add (OpR.or op_cat (OpR.or op_catA op_add_str))

/-! ### the other operators on ints -/
def fSub : D → D → Option D := fInt fun i j => .int (i - j)
theorem os_sub : OpS K mg (rI0 fun i j => .int (i - j)) fSub := os_int fun i j F H => rpi
/-- a factor below 2 ^ 64, or both below 2 ^ 100000 -/
def cMul (i j : Int) : Bool := decide (-(2 ^ 64) < i ∧ i < 2 ^ 64) || decide (-(2 ^ 64) < j ∧ j < 2 ^ 64)
def fRep : D → D → Option D
  | .lst _ xs, .int k => if frozL xs && decide (-(2 ^ 63) ≤ k) && decide (k < 2 ^ 63) && decide (xs.length * k.toNat ≤ sizeLine) then some (.lst true (List.replicate k.toNat xs).flatten) else none
  | _, _ => none
theorem rpl_rep {F H : Hp} {xs : List D} {vs : List V} (h : RpL K mg F H xs vs []) : ∀ n : Nat, RpL K mg F H (List.replicate n xs).flatten (List.replicate n vs).flatten []
  | 0 => by unfold RpL; exact ⟨rfl, rfl⟩
  | n + 1 => by
    rw [List.replicate_succ, List.replicate_succ, List.flatten_cons, List.flatten_cons]
    exact h.append (rpl_rep h n)
theorem os_rep : OpS K mg L2.rRep fRep := by
  intro B σ H F env ts vs dx dy vx vy Sx Sy d Q R h1 h2 e k
  cases dx with
  | lst o xs =>
    cases dy with
    | int j =>
      have e' : (if frozL xs && decide (-(2 ^ 63) ≤ j) && decide (j < 2 ^ 63) && decide (xs.length * j.toNat ≤ sizeLine) then some (D.lst true (List.replicate j.toNat xs).flatten) else none) = some d := e
      split at e'
      · rename_i hc
        rw [Bool.and_eq_true, Bool.and_eq_true, Bool.and_eq_true] at hc
        cases e'
        obtain ⟨⟨⟨c1, c2⟩, c3⟩, c4⟩ := hc
        obtain ⟨a, us, rfl, rl, s1⟩ := lst_inv0 h1 R.ex c1
        unfold Rp at h2
        have hz := of_decide_eq_true c4
        rw [rl.len] at hz
        exact ⟨a, j, us, rfl, h2.1, s1, of_decide_eq_true c2, of_decide_eq_true c3, hz, fun p hp => k _ _ _ (R.newLst0 (rpl_rep rl _) hp)⟩
      · cases e'
    | _ => cases e
  | _ => cases e
theorem cMul_ok {i j : Int} (h : cMul i j = true) : CMul i j := by
  unfold cMul at h
  rw [Bool.or_eq_true] at h
  exact h.imp of_decide_eq_true of_decide_eq_true
def fMul : D → D → Option D := fOr (fIntC cMul fun i j => .int (i * j)) fRep
def rMulA : R2 := fun x y H Q => rI CMul (fun i j => .int (i * j)) x y H Q ∨ L2.rRep x y H Q
theorem os_mul : OpS K mg rMulA fMul := OpS.or (os_intC (fun i j => cMul_ok) fun i j F H => rpi) os_rep
theorem op_mulA : OpR X (binaryOp .Mult) rMulA := OpR.or op_mul op_rep
def cDivW (_ j : Int) : Bool := decide (0 < j) && decide (j.natAbs.log2 < 9000)
def fDiv : D → D → Option D := fIntC cDivW fun i j => .int (i / j)
theorem os_div : OpS K mg (rI CDivW fun i j => .int (i / j)) fDiv := os_intC (fun i j h => by unfold cDivW at h; rw [Bool.and_eq_true] at h; exact ⟨of_decide_eq_true h.1, of_decide_eq_true h.2⟩) fun i j F H => rpi
def fMod : D → D → Option D := fIntC (fun _ j => decide (0 < j)) fun i j => .int (i % j)
theorem os_mod : OpS K mg (rI (fun _ j => 0 < j) fun i j => .int (i % j)) fMod := os_intC (fun i j h => of_decide_eq_true h) fun i j F H => rpi
def cPow (i j : Int) : Bool := decide (0 ≤ j ∧ j ≤ 1000000 ∧ i.natAbs < 2 ^ 64)
def fPow : D → D → Option D := fIntC cPow fun i j => .int (i ^ j.toNat)
theorem os_pow : OpS K mg (rI CPow fun i j => .int (i ^ j.toNat)) fPow := os_intC (fun i j h => by unfold cPow at h; have z := of_decide_eq_true h; exact z) fun i j F H => rpi
def fLt : D → D → Option D := fInt fun i j => .bl (decide (i < j))
def fLe : D → D → Option D := fInt fun i j => .bl (decide (i ≤ j))
def fGt : D → D → Option D := fInt fun i j => .bl (decide (j < i))
def fGe : D → D → Option D := fInt fun i j => .bl (decide (j ≤ i))
theorem os_lt : OpS K mg (rI0 fun i j => .bl (decide (i < j))) fLt := os_int fun i j F H => rpb
theorem os_le : OpS K mg (rI0 fun i j => .bl (decide (i ≤ j))) fLe := os_int fun i j F H => rpb
theorem os_gt : OpS K mg (rI0 fun i j => .bl (decide (j < i))) fGt := os_int fun i j F H => rpb
theorem os_ge : OpS K mg (rI0 fun i j => .bl (decide (j ≤ i))) fGe := os_int fun i j F H => rpb
def fNeg : D → Option D
  | .int i => some (.int (-i))
  | _ => none
theorem us_neg : UnS K mg (rU fun i => .int (-i)) fNeg := by
  intro B σ H F env ts vs dx vx Sx d Q R h1 e k
  cases dx with
  | int i => cases e; unfold Rp at h1; exact ⟨i, h1.1, k _ H F (R.push0 (Tm.of rp_int))⟩
  | _ => cases e

/-! ### data: ==, != -/
mutual
def toPy : D → Option PyData
  | .non => some .none
  | .bl b => some (.bool b)
  | .int i => some (.int i)
  | .str x => some (.str x)
  | .lst _ xs => (toPyL xs).map .list
  | .tup xs => (toPyL xs).map .tuple
  | _ => none
def toPyL : List D → Option (List PyData)
  | [] => some []
  | d :: ds => (toPy d).bind fun p => (toPyL ds).map fun ps => p :: ps
end
mutual
theorem Rp.dp {F H : Hp} : ∀ {d : D} {v : V} {S : List Addr} {q : PyData}, Ex F H → Rp K mg F H d v S → toPy d = some q → Dp K H v q
  | .un, _, _, _, _, h, _ => by unfold Rp at h; exact h.elim
  | .sl _, _, _, _, _, h, _ => by unfold Rp at h; exact h.elim
  | .exc _ _ _, _, _, _, _, _, z => by unfold toPy at z; cases z
  | .non, _, _, _, _, h, z => by unfold Rp at h; unfold toPy at z; cases z; rw [h.1]; exact .non
  | .bl b, _, _, _, _, h, z => by unfold Rp at h; unfold toPy at z; cases z; rw [h.1]; exact .bl b
  | .int b, _, _, _, _, h, z => by unfold Rp at h; unfold toPy at z; cases z; rw [h.1]; exact .int b
  | .str b, _, _, _, _, h, z => by unfold Rp at h; unfold toPy at z; cases z; rw [h.1]; exact .str b
  | .lst o xs, v, S, q, e, h, z => by
    obtain ⟨a, vs, S', rfl, hl, hs⟩ := lst_inv h e
    unfold toPy at z
    cases zz : toPyL xs with
    | none => rw [zz] at z; cases z
    | some ps => rw [zz] at z; cases z; exact .lst (Or.inl (Or.inl hs)) (RpL.dp e hl zz)
  | .tup xs, v, S, q, e, h, z => by
    unfold Rp at h
    obtain ⟨a, vs, rfl, hl, hs⟩ := h
    unfold toPy at z
    cases zz : toPyL xs with
    | none => rw [zz] at z; cases z
    | some ps => rw [zz] at z; cases z; exact .tup (e.sqT hs) (RpL.dp e hl zz)
  | .dct _ _ _, _, _, _, _, _, z => by unfold toPy at z; cases z
  | .obj _ _ _ _, _, _, _, _, _, z => by unfold toPy at z; cases z
  | .scr _, _, _, _, _, _, z => by unfold toPy at z; cases z
theorem RpL.dp {F H : Hp} : ∀ {ds : List D} {vs : List V} {S : List Addr} {qs : List PyData}, Ex F H → RpL K mg F H ds vs S → toPyL ds = some qs → DpAll K H vs qs
  | [], _, _, _, _, h, z => by unfold RpL at h; unfold toPyL at z; cases z; rw [h.1]; exact .nil
  | d :: ds, _, _, _, e, h, z => by
    unfold RpL at h
    obtain ⟨v, r, S1, S2, rfl, rfl, h1, h2⟩ := h
    unfold toPyL at z
    cases z1 : toPy d with
    | none => rw [z1] at z; cases z
    | some p =>
      rw [z1] at z
      have z' : ((toPyL ds).map fun ps => p :: ps) = some _ := z
      cases z2 : toPyL ds with
      | none => rw [z2] at z'; cases z'
      | some ps => rw [z2] at z'; cases z'; exact .cons (Rp.dp e h1 z1) (RpL.dp e h2 z2)
end
def eqP (x y : D) : Option Bool := (toPy x).bind fun p => (toPy y).bind fun q => if SeqAt.shaped p && SeqAt.shaped q then some (PyData.eqv p q) else none
def fEq (x y : D) : Option D := (eqP x y).map .bl
def fNe (x y : D) : Option D := (eqP x y).map fun b => .bl (!b)
theorem eqP_inv {x y : D} {b : Bool} (h : eqP x y = some b) : ∃ p q, toPy x = some p ∧ toPy y = some q ∧ SeqAt.shaped p = true ∧ SeqAt.shaped q = true ∧ b = PyData.eqv p q := by
  unfold eqP at h
  cases hx : toPy x with
  | none => rw [hx] at h; cases h
  | some p =>
    rw [hx] at h
    cases hy : toPy y with
    | none => rw [hy] at h; cases h
    | some q =>
      rw [hy] at h
      have h' : (if SeqAt.shaped p && SeqAt.shaped q then some (PyData.eqv p q) else none) = some b := h
      split at h'
      · rename_i hc
        rw [Bool.and_eq_true] at hc
        cases h'
        exact ⟨p, q, rfl, rfl, hc.1, hc.2, rfl⟩
      · cases h'
theorem os_eq : OpS K mg (rEqD K) fEq := by
  intro B σ H F env ts vs dx dy vx vy Sx Sy d Q R h1 h2 e k
  unfold fEq at e
  cases he : eqP dx dy with
  | none => rw [he] at e; cases e
  | some b =>
    rw [he] at e
    cases e
    obtain ⟨p, q, e1, e2, s1, s2, rfl⟩ := eqP_inv he
    exact ⟨p, q, h1.dp R.ex e1, h2.dp R.ex e2, s1, s2, k _ H F (R.push0 (Tm.of rp_bl))⟩
theorem os_ne : OpS K mg (rNeD K) fNe := by
  intro B σ H F env ts vs dx dy vx vy Sx Sy d Q R h1 h2 e k
  unfold fNe at e
  cases he : eqP dx dy with
  | none => rw [he] at e; cases e
  | some b =>
    rw [he] at e
    cases e
    obtain ⟨p, q, e1, e2, s1, s2, rfl⟩ := eqP_inv he
    exact ⟨p, q, h1.dp R.ex e1, h2.dp R.ex e2, s1, s2, k _ H F (R.push0 (Tm.of rp_bl))⟩
theorem fEq_un1 (y : D) : fEq .un y = none := rfl
theorem fEq_un2 (x : D) : fEq x .un = none := by unfold fEq eqP; cases toPy x <;> rfl
theorem fNe_un1 (y : D) : fNe .un y = none := rfl
theorem fNe_un2 (x : D) : fNe x .un = none := by unfold fNe eqP; cases toPy x <;> rfl
/-! ### is None -/
def isNone : D → Bool
  | .non => true
  | _ => false
theorem Rp.isNon {F H : Hp} {d : D} {v : V} {S : List Addr} (h : Rp K mg F H d v S) : decide (v = .non) = isNone d := by
  cases d <;> unfold Rp at h
  case un => exact h.elim
  case sl => exact h.elim
  case exc => obtain ⟨_, a, _, _, rfl, _⟩ := h; rfl
  case non => rw [h.1]; rfl
  case bl => rw [h.1]; rfl
  case int => rw [h.1]; rfl
  case str => rw [h.1]; rfl
  case lst => obtain ⟨a, _, _, rfl, _⟩ := h; rfl
  case tup => obtain ⟨a, _, rfl, _⟩ := h; rfl
  case dct => obtain ⟨a, _, _, rfl, _⟩ := h; rfl
  case obj => obtain ⟨a, _, _, _, _, rfl, _⟩ := h; rfl
  case scr => obtain ⟨_, a, rfl, _⟩ := h; rfl
def fIs : D → D → Option D
  | x, .non => if isUn x then none else some (.bl (isNone x))
  | _, _ => none
def fIsN : D → D → Option D
  | x, .non => if isUn x then none else some (.bl (!isNone x))
  | _, _ => none
theorem os_is : OpS K mg (fun x y H Q => y = .non ∧ Q (.bl (decide (x = .non))) H) fIs := by
  intro B σ H F env ts vs dx dy vx vy Sx Sy d Q R h1 h2 e k
  cases dy with
  | non =>
    have e' : (if isUn dx then none else some (D.bl (isNone dx))) = some d := e
    split at e'
    · cases e'
    · cases e'
      unfold Rp at h2
      exact ⟨h2.1, by rw [h1.isNon]; exact k _ H F (R.push0 (Tm.of rp_bl))⟩
  | _ => cases dx <;> cases e
theorem os_isN : OpS K mg (fun x y H Q => y = .non ∧ Q (.bl (!decide (x = .non))) H) fIsN := by
  intro B σ H F env ts vs dx dy vx vy Sx Sy d Q R h1 h2 e k
  cases dy with
  | non =>
    have e' : (if isUn dx then none else some (D.bl (!isNone dx))) = some d := e
    split at e'
    · cases e'
    · cases e'
      unfold Rp at h2
      exact ⟨h2.1, by rw [h1.isNon]; exact k _ H F (R.push0 (Tm.of rp_bl))⟩
  | _ => cases dx <;> cases e

/-! ### built-ins -/
def fMin2 : List D → Option D
  | [.int i, .int j] => some (.int (if j < i then j else i))
  | _ => none
def fMax2 : List D → Option D
  | [.int i, .int j] => some (.int (if j > i then j else i))
  | _ => none
theorem cs_int2 {g : Int → Int → Int} {f : List D → Option D} (hf : ∀ ds d, f ds = some d → ∃ i j, ds = [.int i, .int j] ∧ d = .int (g i j)) : CaS K mg (fun xs H Q => ∃ i j, xs = [.int i, .int j] ∧ Q (.int (g i j)) H) f := by
  intro B σ H F env ts vs dx vx d Q R h e k
  obtain ⟨i, j, rfl, rfl⟩ := hf _ _ e
  exact ⟨i, j, h.int2, k _ H F (R.push0 (Tm.of rp_int))⟩
theorem cs_min2 : CaS K mg (fun xs H Q => ∃ i j, xs = [.int i, .int j] ∧ Q (.int (if j < i then j else i)) H) fMin2 := cs_int2 (g := fun i j => if j < i then j else i) fun ds d e => by
  unfold fMin2 at e
  split at e
  · rename_i i j; cases e; exact ⟨i, j, rfl, rfl⟩
  · cases e
theorem cs_max2 : CaS K mg (fun xs H Q => ∃ i j, xs = [.int i, .int j] ∧ Q (.int (if j > i then j else i)) H) fMax2 := cs_int2 (g := fun i j => if j > i then j else i) fun ds d e => by
  unfold fMax2 at e
  split at e
  · rename_i i j; cases e; exact ⟨i, j, rfl, rfl⟩
  · cases e
theorem AllRp.one {F H : Hp} {ws : List V} {d : D} (h : AllRp K mg F H [d] ws) : ∃ v S, ws = [v] ∧ Rp K mg F H d v S := by
  unfold AllRp at h
  obtain ⟨v, r, rfl, ⟨S, rp⟩, h2⟩ := h
  unfold AllRp at h2
  exact ⟨v, S, by rw [h2], rp⟩
def fInt1 : List D → Option D
  | [.int i] => some (.int i)
  | [.bl b] => some (.int (if b then 1 else 0))
  | _ => none
theorem cs_int1 : CaS K mg (fun xs H Q => (∃ i, xs = [.int i] ∧ Q (.int i) H) ∨ ∃ k, xs = [.bl k] ∧ Q (.int (if k then 1 else 0)) H) fInt1 := by
  intro B σ H F env ts vs dx vx d Q R h e k
  unfold fInt1 at e
  split at e
  · rename_i i; cases e; exact .inl ⟨i, h.int1, k _ H F (R.push0 (Tm.of rp_int))⟩
  · rename_i b; cases e
    obtain ⟨v, S, rfl, rp⟩ := h.one
    unfold Rp at rp
    exact .inr ⟨b, by rw [rp.1], k _ H F (R.push0 (Tm.of rp_int))⟩
  · cases e
/-- len of a list, a tuple, the script -/
def fLen : List D → Option D
  | [.lst _ xs] => some (.int xs.length)
  | [.tup xs] => some (.int xs.length)
  | [.scr ns] => some (.int ns.length)
  | _ => none
theorem cs_len : CaS K mg (fun xs H Q => ∃ p ys, xs = [.ref p] ∧ (SqL K H p ys ∨ SqT K H p ys) ∧ Q (.int ys.length) H) fLen := by
  intro B σ H F env ts vs dx vx d Q R h e k
  unfold fLen at e
  split at e
  · cases e
    obtain ⟨v, S, rfl, rp⟩ := h.one
    obtain ⟨a, us, S', rfl, hl, hs⟩ := lst_inv rp R.ex
    exact ⟨a, us, rfl, .inl (Or.inl (Or.inl hs)), by rw [← hl.len]; exact k _ H F (R.push0 (Tm.of rp_int))⟩
  · cases e
    obtain ⟨v, S, rfl, rp⟩ := h.one
    unfold Rp at rp
    obtain ⟨a, us, rfl, hl, hs⟩ := rp
    exact ⟨a, us, rfl, .inr (R.ex.sqT hs), by rw [← hl.len]; exact k _ H F (R.push0 (Tm.of rp_int))⟩
  · rename_i ns; cases e
    obtain ⟨v, S, rfl, rp⟩ := h.one
    unfold Rp at rp
    obtain ⟨_, a, rfl, hs⟩ := rp
    exact ⟨a, ns.map V.int, rfl, .inl (R.ex.sqL hs), by rw [List.length_map]; exact k _ H F (R.push0 (Tm.of rp_int))⟩
  · cases e
/-- list(xs), list(t) -/
def fList : List D → Option D
  | [.lst _ xs] => if frozL xs then some (.lst true xs) else none
  | [.tup xs] => if frozL xs then some (.lst true xs) else none
  | [.scr ns] => some (.lst true (ns.map .int))
  | _ => none
theorem cs_list : CaS K mg (fun xs H Q => ∃ p ys, xs = [.ref p] ∧ (SqL K H p ys ∨ SqT K H p ys) ∧ ∀ l, H l = none → Q (.ref l) (upd H l (.lst ys))) fList := by
  intro B σ H F env ts vs dx vx d Q R h e k
  unfold fList at e
  split at e
  · split at e
    · rename_i hf; cases e
      obtain ⟨v, S, rfl, rp⟩ := h.one
      obtain ⟨a, us, rfl, hl, hs⟩ := lst_inv0 rp R.ex hf
      exact ⟨a, us, rfl, .inl (Or.inl (Or.inl hs)), fun l hl2 => k _ _ _ (R.newLst0 hl hl2)⟩
    · cases e
  · split at e
    · rename_i hf; cases e
      obtain ⟨v, S, rfl, rp⟩ := h.one
      obtain ⟨a, us, rfl, hl, hs, _⟩ := tup_inv0 rp R.ex hf
      exact ⟨a, us, rfl, .inr hs, fun l hl2 => k _ _ _ (R.newLst0 hl hl2)⟩
    · cases e
  · rename_i ns; cases e
    obtain ⟨v, S, rfl, rp⟩ := h.one
    unfold Rp at rp
    obtain ⟨_, a, rfl, hs⟩ := rp
    exact ⟨a, ns.map V.int, rfl, .inl (R.ex.sqL hs), fun l hl2 => k _ _ _ (R.newLst0 (RpL.dints ns) hl2)⟩
  · cases e
/-- tuple(xs), tuple(t) -/
def fTuple : List D → Option D
  | [.lst _ xs] => if frozL xs then some (.tup xs) else none
  | [.tup xs] => if frozL xs then some (.tup xs) else none
  | _ => none
theorem RE.newTup0 {B : Bd} {σ : St} {F H : Hp} {env ts xs : List D} {vs ws : List V} {p : Addr} (R : RE K mg B σ H F env ts vs) (h : RpL K mg F H xs ws []) (hp : H p = none) : RE K mg B σ (upd H p (.tup ws)) (upd F p (.tup ws)) env (ts ++ [.tup xs]) (vs ++ [.ref p]) := by
  refine (R.newF (o := .tup ws) hp).push0 (Tm.of ?_)
  unfold Rp
  exact ⟨p, ws, rfl, h.stay (Ex.new (R.ex.none hp)) fun a ha => absurd ha List.not_mem_nil, Or.inl (Or.inl upd_same)⟩
theorem cs_tuple : CaS K mg (fun xs H Q => ∃ p ys, xs = [.ref p] ∧ ((SqL K H p ys ∧ ∀ l, H l = none → Q (.ref l) (upd H l (.tup ys))) ∨ (SqT K H p ys ∧ Q (.ref p) H))) fTuple := by
  intro B σ H F env ts vs dx vx d Q R h e k
  unfold fTuple at e
  split at e
  · split at e
    · rename_i hf; cases e
      obtain ⟨v, S, rfl, rp⟩ := h.one
      obtain ⟨a, us, rfl, hl, hs⟩ := lst_inv0 rp R.ex hf
      exact ⟨a, us, rfl, .inl ⟨Or.inl (Or.inl hs), fun l hl2 => k _ _ _ (R.newTup0 hl hl2)⟩⟩
    · cases e
  · split at e
    · rename_i hf; cases e
      obtain ⟨v, S, rfl, rp⟩ := h.one
      obtain ⟨a, us, rfl, hl, hs, r0⟩ := tup_inv0 rp R.ex hf
      exact ⟨a, us, rfl, .inr ⟨hs, k _ H F (R.push0 (Tm.of r0))⟩⟩
    · cases e
  · cases e
/-- lists of ints -/
def asInts : List D → Option (List Int)
  | [] => some []
  | .int i :: ds => (asInts ds).map (i :: ·)
  | _ => none
theorem asInts_map : ∀ ns : List Int, asInts (ns.map .int) = some ns
  | [] => rfl
  | n :: ns => by rw [List.map_cons]; unfold asInts; rw [asInts_map ns]; rfl
theorem asInts_inv : ∀ {ds : List D} {ns : List Int}, asInts ds = some ns → ds = ns.map .int
  | [], _, h => by unfold asInts at h; cases h; rfl
  | d :: ds, ns, h => by
    cases d with
    | int i =>
      unfold asInts at h
      cases q : asInts ds with
      | none => rw [q] at h; cases h
      | some ms => rw [q] at h; cases h; rw [asInts_inv q]; rfl
    | _ => unfold asInts at h; cases h
theorem frozL_ints : ∀ ns : List Int, frozL (ns.map .int) = true
  | [] => rfl
  | n :: ns => by rw [List.map_cons]; unfold frozL; rw [frozL_ints ns]; rfl
theorem RpL.ofInts {F H : Hp} : ∀ {ns : List Int} {vs : List V} {S : List Addr}, RpL K mg F H (ns.map .int) vs S → vs = ns.map V.int
  | [], _, _, h => by unfold RpL at h; exact h.1
  | n :: ns, _, _, h => by
    rw [List.map_cons] at h
    unfold RpL at h
    obtain ⟨v, r, S1, S2, rfl, rfl, h1, h2⟩ := h
    unfold Rp at h1
    rw [h1.1, h2.ofInts]
    rfl
theorem RpL.ints {F H : Hp} : ∀ ns : List Int, RpL K mg F H (ns.map .int) (ns.map V.int) []
  | [] => by unfold RpL; exact ⟨rfl, rfl⟩
  | n :: ns => by
    rw [List.map_cons, List.map_cons]
    unfold RpL
    exact ⟨_, _, [], [], rfl, rfl, rp_int, RpL.ints ns⟩
def fSumL : List D → Option D
  | [.lst _ xs] => (asInts xs).map fun ns => .int ns.sum
  | _ => none
theorem cs_sum : CaS K mg (rSum K) fSumL := by
  intro B σ H F env ts vs dx vx d Q R h e k
  unfold fSumL at e
  split at e
  · rename_i o xs
    cases q : asInts xs with
    | none => rw [q] at e; cases e
    | some ns =>
      rw [q] at e
      cases e
      obtain ⟨v, S, rfl, rp⟩ := h.one
      rw [asInts_inv q] at rp
      obtain ⟨a, us, S', rfl, hl, hs⟩ := lst_inv rp R.ex
      rw [hl.ofInts] at hs
      exact ⟨a, ns, rfl, Or.inl (Or.inl hs), k _ H F (R.push0 (Tm.of rp_int))⟩
  · cases e
/-- sorted(xs) of ints -/
def fSorted : List D → Option D
  | [.lst _ xs] => (asInts xs).map fun ns => .lst true ((ns.mergeSort (· ≤ ·)).map .int)
  | _ => none
theorem cs_sorted : CaS K mg (rSortedI K) fSorted := by
  intro B σ H F env ts vs dx vx d Q R h e k
  unfold fSorted at e
  split at e
  · rename_i o xs
    cases q : asInts xs with
    | none => rw [q] at e; cases e
    | some ns =>
      rw [q] at e
      cases e
      obtain ⟨v, S, rfl, rp⟩ := h.one
      rw [asInts_inv q] at rp
      obtain ⟨a, us, S', rfl, hl, hs⟩ := lst_inv rp R.ex
      rw [hl.ofInts] at hs
      refine ⟨a, ns, rfl, Or.inl (Or.inl hs), fun ns' p hp hw hn => ?_⟩
      have e2 : ns' = ns.mergeSort (· ≤ ·) := by
        have p2 : ns'.Perm (ns.mergeSort (· ≤ ·)) := hp.trans (List.mergeSort_perm ns _).symm
        have w2 : (ns.mergeSort (· ≤ ·)).Pairwise (fun a b => decide (a ≤ b) = true) := List.pairwise_mergeSort (fun a b c h1 h2 => by simp only [decide_eq_true_eq] at *; omega) (fun a b => by simp only [Bool.or_eq_true, decide_eq_true_eq]; omega) ns
        exact p2.eq_of_pairwise (le := fun a b => a ≤ b) (fun a b _ _ h1 h2 => by omega) hw (w2.imp fun h => by simpa using h)
      rw [e2]
      exact k _ _ _ (R.newLst0 (RpL.ints _) hn)
  · cases e
/-! ### items -/
def fIx : D → D → Option D
  | .lst _ xs, .int i => (atI xs i).bind fun d => if froz d then some d else none
  | .tup xs, .int i => (atI xs i).bind fun d => if froz d then some d else none
  | _, _ => none
theorem atI_rp {F H : Hp} {xs : List D} {vs : List V} {S : List Addr} {i : Int} {d : D} (h : RpL K mg F H xs vs S) (e : atI xs i = some d) (hf : froz d = true) : ∃ v, atI vs i = some v ∧ Rp K mg F H d v [] := by
  unfold atI at e ⊢
  rw [← h.len]
  cases q : ixN xs.length i with
  | none => rw [q] at e; cases e
  | some j =>
    rw [q] at e
    have e' : xs[j]? = some d := e
    have key : ∀ {xs : List D} {vs : List V} {S : List Addr} {j : Nat}, RpL K mg F H xs vs S → xs[j]? = some d → ∃ v T, vs[j]? = some v ∧ Rp K mg F H d v T := by
      intro xs
      induction xs with
      | nil => intro vs S j _ e; simp at e
      | cons x xs ih =>
        intro vs S j h e
        unfold RpL at h
        obtain ⟨v, r, S1, S2, rfl, rfl, h1, h2⟩ := h
        cases j with
        | zero => cases e; exact ⟨v, S1, rfl, h1⟩
        | succ j =>
          obtain ⟨v', T, e1, e2⟩ := ih (vs := r) (S := S2) (j := j) h2 (by rw [List.getElem?_cons_succ] at e; exact e)
          exact ⟨v', T, by rw [List.getElem?_cons_succ]; exact e1, e2⟩
    obtain ⟨v, T, ev, rp⟩ := key h e'
    have e0 := rp.froz hf
    subst e0
    exact ⟨v, ev, rp⟩
theorem os_ix : OpS K mg (rIx K) fIx := by
  intro B σ H F env ts vs dx dy vx vy Sx Sy d Q R h1 h2 e k
  have fin : ∀ {xs : List D} {i : Int}, ((atI xs i).bind fun d => if froz d then some d else none) = some d → atI xs i = some d ∧ froz d = true := fun {xs i} z => by
    cases q : atI xs i with
    | none => rw [q] at z; cases z
    | some x =>
      rw [q] at z
      have z' : (if froz x then some x else none) = some d := z
      split at z'
      · rename_i hf; cases z'; exact ⟨rfl, hf⟩
      · cases z'
  cases dx with
  | lst o xs =>
    cases dy with
    | int i =>
      obtain ⟨e1, hf⟩ := fin e
      unfold Rp at h2
      obtain ⟨a, us, S', rfl, hl, hs⟩ := lst_inv h1 R.ex
      obtain ⟨v, ev, rp⟩ := atI_rp hl e1 hf
      exact .inl ⟨a, us, i, v, rfl, h2.1, Or.inl (Or.inl hs), ev, k _ H F (R.push0 (Tm.of rp))⟩
    | _ => cases e
  | tup xs =>
    cases dy with
    | int i =>
      obtain ⟨e1, hf⟩ := fin e
      unfold Rp at h1 h2
      obtain ⟨a, us, rfl, hl, hs⟩ := h1
      obtain ⟨v, ev, rp⟩ := atI_rp hl e1 hf
      exact .inr (.inl ⟨a, us, i, v, rfl, h2.1, R.ex.sqT hs, ev, k _ H F (R.push0 (Tm.of rp))⟩)
    | _ => cases e
  | _ => cases e
end
end DL
set_option Elab.async false
set_option linter.all false
set_option maxRecDepth 100000
set_option maxHeartbeats 2000000
/-! DLh: comprehensions. -/
namespace DL
open PySem L2

/-- the slots of a comprehension's own names are forgotten -/
def wipeE (env : List D) : List Nat → List D
  | [] => env
  | v :: vs => (wipeE env vs).set v .un
def deAl (ts : List D) : List D := ts.map fun d => if isSl d then .non else d
def deAlV : List D → List V → List V
  | d :: ds, v :: vs => (if isSl d then .non else v) :: deAlV ds vs
  | _, _ => []
theorem deAlV_len : ∀ {ts : List D} {vs : List V}, ts.length = vs.length → (deAlV ts vs).length = ts.length
  | [], [], _ => rfl
  | _ :: ts, _ :: vs, h => by
    unfold deAlV
    rw [List.length_cons, List.length_cons, deAlV_len (by simpa using h)]
  | [], _ :: _, h => by cases h
  | _ :: _, [], h => by cases h
theorem deAlV_get : ∀ {ts : List D} {vs : List V} {k : Nat} {d : D} {v : V}, ts[k]? = some d → vs[k]? = some v → (deAlV ts vs)[k]? = some (if isSl d then .non else v)
  | [], _, _, _, _, h, _ => by simp at h
  | _ :: _, [], _, _, _, _, h => by simp at h
  | d :: ds, v :: vs, k, d', v', h1, h2 => by
    cases k with
    | zero => cases h1; cases h2; rfl
    | succ k => exact deAlV_get (ts := ds) (vs := vs) (k := k) h1 h2
theorem noAl_deAl (ts : List D) : noAl (deAl ts) := fun d hd i z => by
  unfold deAl at hd
  obtain ⟨x, _, rfl⟩ := List.mem_map.mp hd
  split at z
  · cases z
  · rename_i h; rw [z] at h; exact h rfl
section
variable {K : PySem.W.Frag} {mg : Str → Option Value} {B : Bd} {σ σ2 : St} {F F' H H' : Hp} {env env2 ts us : List D} {vs ws : List V}
abbrev noPin (B : Bd) : Bd := { B with pins := [] }
theorem RE.wipe {B : Bd} (hb : B.pins = []) (na : noAl ts) (R : RE K mg B σ H F env ts vs) : ∀ own : List Nat, RE K mg B (L2.wipe σ own) H F (wipeE env own) ts vs
  | [] => R
  | i :: own => by
    obtain ⟨ow, r⟩ := RE.wipe hb na R own
    have r1 := r.unslot i
    refine ⟨_, r1.resig (i := i) (x := none) ?_ (fun p hp => by rw [hb] at hp; exact absurd hp List.not_mem_nil) na⟩
    by_cases hi : i < (wipeE env own).length
    · exact .inr (by rw [List.getElem?_set_self hi])
    · exact .inl (by rw [List.getElem?_eq_none]; simp only [List.length_set]; omega)
theorem RE.enter (R : RE K mg B σ H F env ts vs) (own : List Nat) : RE K mg (noPin B) (L2.wipe σ own) H F (wipeE env own) (deAl ts) (deAlV ts vs) := by
  obtain ⟨ow, r⟩ := R
  have dl : (deAl ts).length = ts.length := by unfold deAl; rw [List.length_map]
  refine RE.wipe (B := noPin B) rfl (noAl_deAl ts) ⟨ow, r.len, by rw [dl, deAlV_len r.tlen], r.slot, r.sun, fun k d v e1 e2 => ?_, fun k hk => r.tun k (by rw [dl] at hk; exact hk), r.uniq, r.nod, r.fno, r.ex, r.fr, fun p (hp : p ∈ []) => absurd hp List.not_mem_nil⟩ own
  have hk : k < ts.length := by have := (List.getElem?_eq_some_iff.mp e1).1; rw [dl] at this; exact this
  have hv : k < vs.length := by rw [← r.tlen]; exact hk
  have t1 := r.temp k ts[k] vs[k] (by simp [hk]) (by simp [hv])
  rw [deAlV_get (d := ts[k]) (v := vs[k]) (by simp [hk]) (by simp [hv])] at e2
  cases e2
  unfold deAl at e1
  rw [List.getElem?_map, List.getElem?_eq_getElem hk] at e1
  cases e1
  cases hs : isSl ts[k] with
  | true =>
    rw [if_pos rfl]
    show Tm K mg F H σ (if isSl ts[k] then .non else ts[k]) _ _
    rw [hs, if_pos rfl]
    refine Tm.of ?_
    cases hd : ts[k] with
    | sl i => rw [hd] at t1; rw [t1.2]; exact rp_non
    | _ => rw [hd] at hs; cases hs
  | false =>
    rw [if_neg Bool.false_ne_true]
    show Tm K mg F H σ (if isSl ts[k] then .non else ts[k]) _ _
    rw [hs, if_neg Bool.false_ne_true]
    exact Tm.of (t1.rp fun i z => by rw [z] at hs; cases hs)
theorem wipe_out : ∀ {own : List Nat} {j : Nat}, j ∉ own → (L2.wipe σ own)[j]? = σ[j]?
  | [], _, _ => rfl
  | i :: own, j, h => by
    show ((L2.wipe σ own).set i none)[j]? = _
    rw [List.getElem?_set_ne fun z => h (by rw [z]; exact List.mem_cons_self)]
    exact wipe_out fun z => h (List.mem_cons_of_mem _ z)
theorem wipeE_out : ∀ {own : List Nat} {j : Nat}, j ∉ own → (wipeE env own)[j]? = env[j]?
  | [], _, _ => rfl
  | i :: own, j, h => by
    show ((wipeE env own).set i .un)[j]? = _
    rw [List.getElem?_set_ne fun z => h (by rw [z]; exact List.mem_cons_self)]
    exact wipeE_out fun z => h (List.mem_cons_of_mem _ z)
theorem wipeE_len : ∀ own : List Nat, (wipeE env own).length = env.length
  | [] => rfl
  | i :: own => by
    show ((wipeE env own).set i .un).length = _
    rw [List.length_set, wipeE_len own]
theorem wipeE_in : ∀ {own : List Nat} {j : Nat}, j ∈ own → (wipeE env own)[j]? = none ∨ (wipeE env own)[j]? = some .un
  | [], _, h => absurd h List.not_mem_nil
  | i :: own, j, h => by
    show ((wipeE env own).set i .un)[j]? = none ∨ ((wipeE env own).set i .un)[j]? = some .un
    by_cases e : j = i
    · subst e
      by_cases hl : j < (wipeE env own).length
      · right; rw [List.getElem?_set_self hl]
      · left; rw [List.getElem?_eq_none]; simp only [List.length_set]; omega
    · rw [List.getElem?_set_ne (Ne.symm e)]
      exact wipeE_in ((List.mem_cons.mp h).resolve_left e)
theorem wipe_same {own : List Nat} (h : SameS own σ σ2) : L2.wipe σ2 own = L2.wipe σ own := by
  apply List.ext_getElem?
  intro j
  by_cases hj : j ∈ own
  · have key : ∀ (σ : St) {own : List Nat}, j ∈ own → (L2.wipe σ own)[j]? = if j < σ.length then some none else none := by
      intro σ own
      induction own with
      | nil => intro h; exact absurd h List.not_mem_nil
      | cons i own ih =>
        intro h
        show ((L2.wipe σ own).set i none)[j]? = _
        by_cases e : j = i
        · subst e
          by_cases hl : j < σ.length
          · rw [List.getElem?_set_self (by rw [wipe_length]; exact hl), if_pos hl]
          · rw [if_neg hl, List.getElem?_eq_none]
            simp only [List.length_set, wipe_length]
            omega
        · rw [List.getElem?_set_ne (Ne.symm e)]
          exact ih ((List.mem_cons.mp h).resolve_left e)
    rw [key σ2 hj, key σ hj, h.1]
  · rw [wipe_out hj, wipe_out hj]
    exact h.2 j hj
theorem SameS.sub {T own : List Nat} (h : SameS T σ σ2) (hs : ∀ i ∈ T, i ∈ own) : SameS own σ σ2 := ⟨h.1, fun j hj => h.2 j fun z => hj (hs j z)⟩
theorem wipe_wipe (own : List Nat) : L2.wipe (L2.wipe σ own) own = L2.wipe σ own := wipe_same ⟨wipe_length _ _, fun j hj => wipe_out hj⟩
/-- behind a comprehension -/
theorem RE.leave {own : List Nat} (R0 : RE K mg B σ H F env ts vs) (R1 : RE K mg (noPin B) (L2.wipe σ own) H' F' env2 (deAl ts ++ us) (deAlV ts vs ++ ws)) (hl : us.length = ws.length) (na : noAl us) : RE K mg B σ H' F' (wipeE env2 own) (ts ++ us) (vs ++ ws) := by
  have hle : ∀ own : List Nat, (L2.wipe σ own).length = σ.length := fun own => wipe_length σ own
  obtain ⟨ow0, r0⟩ := R0
  obtain ⟨ow, r⟩ := RE.wipe rfl (fun d hd => (List.mem_append.mp hd).elim (noAl_deAl ts d) (na d)) R1 own
  rw [wipe_wipe] at r
  have dl : (deAl ts).length = ts.length := by unfold deAl; rw [List.length_map]
  have vl : (deAlV ts vs).length = vs.length := by rw [deAlV_len r0.tlen, r0.tlen]
  refine ⟨ow, by rw [r.len, hle], by simp only [List.length_append, r0.tlen, hl], fun i d e1 e2 => ?_, r.sun, fun k d v e1 e2 => ?_, fun k hk => r.tun k (by rw [List.length_append, dl]; rw [List.length_append] at hk; exact hk), r.uniq, r.nod, r.fno, r.ex, r.fr, r0.pin⟩
  · obtain ⟨v, e3, rp⟩ := r.slot i d e1 e2
    have hi : i ∉ own := fun z => by
      rcases wipeE_in (env := env2) z with y | y
      · rw [y] at e1; cases e1
      · rw [y] at e1; cases e1; exact e2 rfl
    rw [wipe_out hi] at e3
    exact ⟨v, e3, rp⟩
  · by_cases hk : k < ts.length
    · have hv : k < vs.length := by rw [← r0.tlen]; exact hk
      rw [List.getElem?_append_left hk] at e1
      rw [List.getElem?_append_left hv] at e2
      have t0 := r0.temp k d v e1 e2
      have t1 := r.temp k (if isSl d then .non else d) (if isSl d then .non else v) (by
        rw [List.getElem?_append_left (by rw [dl]; exact hk)]
        unfold deAl
        rw [List.getElem?_map, e1]; rfl) (by
        rw [List.getElem?_append_left (by rw [vl]; exact hv)]
        exact deAlV_get e1 e2)
      cases hs : isSl d with
      | true =>
        rw [hs, if_pos rfl, if_pos rfl] at t1
        have t1' : Rp K mg F' H' .non .non (ow (.t k)) := t1
        unfold Rp at t1'
        cases d with
        | sl i => exact ⟨t0.1, t1'.2⟩
        | _ => cases hs
      | false =>
        rw [hs, if_neg Bool.false_ne_true, if_neg Bool.false_ne_true] at t1
        exact Tm.of (t1.rp fun i z => by rw [z] at hs; cases hs)
    · rw [List.getElem?_append_right (by omega)] at e1
      rw [List.getElem?_append_right (by rw [← r0.tlen]; omega)] at e2
      have t1 := r.temp k d v (by rw [List.getElem?_append_right (by rw [dl]; omega), dl]; exact e1) (by rw [List.getElem?_append_right (by rw [vl, ← r0.tlen]; omega), vl]; exact e2)
      exact Tm.of (t1.rp (na d (List.mem_of_getElem? e1)))

/-- an item goes onto a list that is the last but one temporary -/
theorem RE.appendT {xs : List D} {d : D} {v : V} {p : Addr} (R : RE K mg B σ H F env (ts ++ [.lst true xs, d]) (vs ++ [.ref p, v])) (hd : ∀ i, d ≠ .sl i) : ∃ ws, H p = some (.lst ws) ∧ ws.length = xs.length ∧ RE K mg B σ (upd H p (.lst (ws ++ [v]))) F env (ts ++ [.lst true (xs ++ [d])]) (vs ++ [.ref p]) := by
  have R' : RE K mg B σ H F env ((ts ++ [.lst true xs]) ++ [d]) ((vs ++ [.ref p]) ++ [v]) := by rw [List.append_assoc, List.append_assoc]; exact R
  obtain ⟨ow, r⟩ := R'
  obtain ⟨ow1, S1, r1, rp1, nd1, hn1, _, sb1, in1⟩ := r.take1 hd
  obtain ⟨ow2, S2, r2, rp2, nd2, hn2, _, sb2, in2⟩ := r1.take1 (d := .lst true xs) (fun i z => by cases z)
  have rp2' := rp2
  unfold Rp at rp2'
  obtain ⟨a, ws, S', e, rl, ho⟩ := rp2'
  cases e
  rw [if_pos rfl] at ho
  obtain ⟨hp, rfl⟩ := ho
  obtain ⟨np, nd3⟩ := List.nodup_cons.mp nd2
  have pn : ∀ a ∈ S1, a ≠ p := fun a ha z => by
    subst z
    obtain ⟨o, ho⟩ := in2 a List.mem_cons_self
    exact (hn1 a ha).1 o ho
  have hpp := hn2 p List.mem_cons_self
  refine ⟨ws, hp, rl.len.symm, ?_⟩
  have r3 : REw K mg B σ (upd H p (.lst (ws ++ [v]))) F env ts vs ow2 := by
    refine r2.grow (Ex.refl F) (fun o a ha => upd_ne fun z => hpp.1 o (by rw [← z]; exact ha)) r2.fno (fun a u hu => ?_) fun a ha => ⟨upd_ne fun z => hpp.2.2 (by rw [← z]; exact ha), rfl⟩
    rw [upd_ne fun z => by rw [z, hpp.2.1] at hu; cases hu]
    exact r2.ex a u hu
  have rl2 := rl.stay (Ex.refl F) (H' := upd H p (.lst (ws ++ [v]))) fun a ha => upd_ne fun z => np (by rw [← z]; exact ha)
  have rd2 := rp1.stay (Ex.refl F) (H' := upd H p (.lst (ws ++ [v]))) fun a ha => upd_ne (pn a ha)
  have one : RpL K mg F (upd H p (.lst (ws ++ [v]))) [d] [v] S1 := by
    unfold RpL
    exact ⟨v, [], S1, [], rfl, (List.append_nil _).symm, rd2, by unfold RpL; exact ⟨rfl, rfl⟩⟩
  have dis : ∀ a ∈ S', ∀ b ∈ S1, a ≠ b := fun a ha b hb z => by
    subst z
    obtain ⟨o, ho⟩ := in2 a (List.mem_cons_of_mem _ ha)
    exact (hn1 a hb).1 o ho
  refine ⟨_, r3.push (d := .lst true (xs ++ [d])) (v := .ref p) (S := p :: (S' ++ S1)) (Tm.of ?_) (fun a ha => ?_) (List.nodup_cons.mpr ⟨fun z => ?_, List.nodup_append.mpr ⟨nd3, nd1, dis⟩⟩)⟩
  · unfold Rp
    exact ⟨p, ws ++ [v], S' ++ S1, rfl, rl2.append one, by rw [if_pos rfl]; exact ⟨upd_same, rfl⟩⟩
  · rcases List.mem_cons.mp ha with z | ha
    · rw [z]; exact hpp
    · rcases List.mem_append.mp ha with ha | ha
      · exact hn2 a (List.mem_cons_of_mem _ ha)
      · exact ⟨fun o z => (hn1 a ha).1 o (sb2 o a z), (hn1 a ha).2⟩
  · rcases List.mem_append.mp z with z | z
    · exact np z
    · exact pn p z rfl
end

/-! ### [elt for target in iter if ..] -/
def compD (own : List Nat) (tg : D → List D → Option (List D)) (test : Dn Bool) (elt : Dn D) : List D → List D → Dn (List D)
  | [], acc, env => .ok acc env
  | x :: xs, acc, env => match tg x env with
    | none => .no
    | some e1 => match test e1 with
      | .ok true e2 => (match dU elt e2 with
        | .ok y e3 => if acc.length < sizeLine then compD own tg test elt xs (acc ++ [y]) (wipeE e3 own) else .no
        | _ => .no)
      | .ok false e2 => compD own tg test elt xs acc (wipeE e2 own)
      | _ => .no
def dLc (own : List Nat) (it : Dn (List D × List D)) (tg : D → List D → Option (List D)) (test : Dn Bool) (elt : Dn D) : Dn D := it.bind fun xs env => match compD own tg test elt xs.2 [] (wipeE env own) with
  | .ok acc e2 => .ok (.lst true acc) (wipeE e2 own)
  | _ => .no
abbrev WF : WX := fun _ _ _ _ => False
abbrev GTs (X : Cx) (W : WX) (ifs : List Expr) (den : Dn Bool) : Prop := PTs X ifs (rdT X.K X.mg W den)
@[simp] def dYes : Dn Bool := fun env => .ok true env
theorem PTs.imp {X : Cx} {e : List Expr} {t t' : TT} (h : PTs X e t) (k : ∀ σ H Q, t' σ H Q → t σ H Q) : PTs X e t' := ⟨fun pins s σ H Q I q => h.run pins s σ H Q I (k σ H Q q)⟩
theorem gts_nil {X : Cx} {W : WX} : GTs X W [] dYes := PTs.imp pts_nil fun σ H Q ⟨B, F, env, ts, vs, R, q⟩ => q H F R
theorem gts_one {X : Cx} {W : WX} {c : Expr} {dt : Dn Bool} (h : GT X W c dt) : GTs X W [c] dt := pts_one h
section
variable {X : Cx} {W : WX} {elt tg iter : Expr} {ifs : List Expr} {scope : Scope} {own : List (Str × Nat)} {T : List Nat} {pos : Pos} {it : Dn (List D × List D)} {g : D → List D → Option (List D)} {dt : Dn Bool} {de : Dn D}
theorem dLc_sl {vs0 : List Nat} {env : List D} {d : D} {e : List D} (z : dLc vs0 it g dt de env = .ok d e) : isSl d = false := by
  unfold dLc Dn.bind at z
  cases h1 : it env with
  | ok xs e1 =>
    rw [h1] at z
    have z' : (match compD vs0 g dt de xs.2 [] (wipeE e1 vs0) with | .ok acc e2 => (Res.ok (D.lst true acc) (wipeE e2 vs0) : Res D) | _ => .no) = .ok d e := z
    cases h2 : compD vs0 g dt de xs.2 [] (wipeE e1 vs0) with
    | ok acc e2 => rw [h2] at z'; cases z'; rfl
    | er _ _ _ _ => rw [h2] at z'; cases z'
    | no => rw [h2] at z'; cases z'
  | er _ _ _ _ => rw [h1] at z; cases z
  | no => rw [h1] at z; cases z
theorem lc_imp {vs0 : List Nat} {dg : Nat} (hT : ∀ i ∈ T, i ∈ vs0) {σ : St} {H : Hp} {Q : VK} (h : rdE X.K X.mg W (dLc vs0 it g dt de) σ H Q) :
    tLc (rdI X.K X.mg W it) (rdG X.K X.mg [] T g) (rdT X.K X.mg WF dt) (rdEU X.K X.mg WF (dU de)) vs0 σ H Q := by
  obtain ⟨B, F, env, ts, vs, R, q⟩ := h
  refine ⟨B, F, env, ts, vs, R, (ResP.bind q).mono (fun xs e1 q1 J ws H1 F1 hl n1 n2 R1 IT L hL => ?_) fun _ _ _ _ z => z⟩
  have q1' : ResP (match compD vs0 g dt de xs.2 [] (wipeE e1 vs0) with | .ok acc e2 => .ok (.lst true acc) (wipeE e2 vs0) | _ => .no) (fun d e => ∀ v H' F', RE X.K X.mg B σ H' F' e (ts ++ [d]) (vs ++ [v]) → Q v H') (ErrK X.K X.mg W B σ ts vs) := q1
  have R0 := R1.drop hl
  have hts : deAl (ts ++ xs.1) = deAl ts ++ xs.1 := by
    unfold deAl
    rw [List.map_append]
    congr 1
    have : xs.1.map (fun d => if isSl d then D.non else d) = xs.1.map id := List.map_congr_left fun d hd => if_neg fun z => by
      cases d with
      | sl i => exact n1 _ hd i rfl
      | _ => cases z
    rw [this, List.map_id]
  have hvs : ∀ {ts : List D} {vs : List V}, ts.length = vs.length → deAlV (ts ++ xs.1) (vs ++ ws) = deAlV ts vs ++ ws := by
    have base : ∀ {us : List D} {ws : List V}, us.length = ws.length → noAl us → deAlV us ws = ws := by
      intro us
      induction us with
      | nil => intro ws h _; cases ws with
        | nil => rfl
        | cons _ _ => cases h
      | cons u us ih => intro ws h n; cases ws with
        | nil => cases h
        | cons w ws =>
          unfold deAlV
          rw [ih (by simpa using h) fun d hd => n d (List.mem_cons_of_mem _ hd), if_neg fun z => by
            cases hu : u with
            | sl i => exact n u List.mem_cons_self i hu
            | _ => rw [hu] at z; cases z]
    intro ts
    induction ts with
    | nil => intro vs h; cases vs with
      | nil => exact base hl n1
      | cons _ _ => cases h
    | cons t ts ih => intro vs h; cases vs with
      | nil => cases h
      | cons v vs =>
        show _ :: deAlV (ts ++ xs.1) (vs ++ ws) = _ :: (deAlV ts vs ++ ws)
        rw [ih (by simpa using h)]
  have RI := R1.enter vs0
  rw [hts, hvs R0.tlen] at RI
  have RN := RI.newLst0 (xs := []) (ws := []) (by unfold RpL; exact ⟨rfl, rfl⟩) hL
  let Fin : List D → List D → List D → Prop := fun xs2 acc e => match compD vs0 g dt de xs2 acc e with
    | .ok acc e2 => ∀ v H' F', RE X.K X.mg B σ H' F' (wipeE e2 vs0) (ts ++ [.lst true acc]) (vs ++ [v]) → Q v H'
    | _ => False
  have fin0 : Fin xs.2 [] (wipeE e1 vs0) := by
    show (match compD vs0 g dt de xs.2 [] (wipeE e1 vs0) with
      | .ok acc e2 => ∀ v H' F', RE X.K X.mg B σ H' F' (wipeE e2 vs0) (ts ++ [.lst true acc]) (vs ++ [v]) → Q v H'
      | _ => False)
    cases hc : compD vs0 g dt de xs.2 [] (wipeE e1 vs0) with
    | ok acc e2 => rw [hc] at q1'; exact q1'
    | er _ _ _ _ => rw [hc] at q1'; exact q1'
    | no => rw [hc] at q1'; exact q1'
  refine ⟨fun i m H' => m = xs.2.length - i ∧ i ≤ xs.2.length ∧ ∃ F' env' acc, RE X.K X.mg (noPin B) (L2.wipe σ vs0) H' F' env' (deAl ts ++ xs.1 ++ [.lst true acc]) (deAlV ts vs ++ ws ++ [.ref L]) ∧ Fin (xs.2.drop i) acc env', ⟨_, rfl, Nat.zero_le _, F1, _, [], RN, fin0⟩, ?_⟩
  rintro i m H2 ⟨rfl, hi, F2, e2, acc, R2, q2⟩
  by_cases hlt : i < xs.2.length
  · right
    have hx : xs.2[i]? = some xs.2[i] := by simp [hlt]
    obtain ⟨go, yl⟩ := (IT (noPin B) (L2.wipe σ vs0) H2 F2 e2 (deAl ts) [.lst true acc] (deAlV ts vs) [.ref L] i rfl R2).1 _ hx
    rw [List.drop_eq_getElem_cons hlt] at q2
    let Nx : Hp → Prop := fun H' => i + 1 ≤ xs.2.length ∧ ∃ F' env' acc, RE X.K X.mg (noPin B) (L2.wipe σ vs0) H' F' env' (deAl ts ++ xs.1 ++ [.lst true acc]) (deAlV ts vs ++ ws ++ [.ref L]) ∧ Fin (xs.2.drop (i + 1)) acc env'
    refine ⟨go, Nx, fun H' z => ⟨xs.2.length - (i + 1), by omega, rfl, z.1, z.2⟩, fun v H3 y => ?_⟩
    obtain ⟨F3, R3⟩ := yl v H3 y
    have nal : noAl (deAl ts ++ xs.1 ++ [.lst true acc]) := fun d hd => (List.mem_append.mp hd).elim (fun z => (List.mem_append.mp z).elim (noAl_deAl ts d) (n1 d)) fun z => by
      rcases List.mem_cons.mp z with z | z
      · rw [z]; intro i q; cases q
      · exact absurd z List.not_mem_nil
    have q2' : (match compD vs0 g dt de (xs.2[i] :: xs.2.drop (i + 1)) acc e2 with
      | .ok acc e2 => ∀ v H' F', RE X.K X.mg B σ H' F' (wipeE e2 vs0) (ts ++ [.lst true acc]) (vs ++ [v]) → Q v H'
      | _ => False) := q2
    unfold compD at q2'
    cases eg : g xs.2[i] e2 with
    | none => rw [eg] at q2'; exact q2'.elim
    | some e3 =>
      rw [eg] at q2'
      dsimp only at q2'
      refine ⟨noPin B, F3, e2, _, _, xs.2[i], e3, rfl, nal, R3, n2 _ (List.getElem_mem hlt), eg, fun σ4 H4 F4 ss R4 => ?_⟩
      have wsame : L2.wipe σ4 vs0 = L2.wipe σ vs0 := by
        have z := wipe_same (ss.sub hT)
        rw [wipe_wipe] at z
        exact z
      refine ⟨wsame, noPin B, F4, e3, _, _, R4, ?_⟩
      cases et : dt e3 with
      | no => rw [et] at q2'; exact q2'.elim
      | er _ _ _ _ => rw [et] at q2'; exact q2'.elim
      | ok b e4 =>
        rw [et] at q2'
        cases b with
        | false =>
          intro H5 F5 R5
          rw [if_neg Bool.false_ne_true]
          have z := RE.wipe (B := noPin B) rfl nal R5 vs0
          rw [wsame] at z
          exact ⟨hlt, F5, _, acc, z, q2'⟩
        | true =>
          intro H5 F5 R5
          rw [if_pos rfl]
          dsimp only at q2'
          refine ⟨noPin B, F5, e4, _, _, R5, ?_⟩
          cases ee : dU de e4 with
          | no => rw [ee] at q2'; exact q2'.elim
          | er _ _ _ _ => rw [ee] at q2'; exact q2'.elim
          | ok y e5 =>
            rw [ee] at q2'
            intro u H6 F6 hu R6
            rw [List.append_assoc _ [D.lst true acc], List.append_assoc _ [V.ref L]] at R6
            obtain ⟨us, hL6, hlen, R7⟩ := R6.appendT hu
            dsimp only at q2'
            by_cases hz : acc.length < sizeLine
            · rw [if_pos hz] at q2'
              refine ⟨us, hL6, by rw [hlen]; exact hz, hlt, F6, _, _, ?_, q2'⟩
              have z := RE.wipe (B := noPin B) rfl (fun d hd => (List.mem_append.mp hd).elim (fun z => nal d (List.mem_append_left _ z)) fun z => by
                rcases List.mem_cons.mp z with z | z
                · rw [z]; intro i q; cases q
                · exact absurd z List.not_mem_nil) R7 vs0
              rw [wsame] at z
              exact z
            · rw [if_neg hz] at q2'; exact q2'.elim
  · left
    have hi2 : i = xs.2.length := by omega
    subst hi2
    refine ⟨(IT (noPin B) (L2.wipe σ vs0) H2 F2 e2 (deAl ts) [.lst true acc] (deAlV ts vs) [.ref L] _ rfl R2).2 (Nat.le_refl _), ?_⟩
    rw [List.drop_length] at q2
    have q3 : ∀ v H' F', RE X.K X.mg B σ H' F' (wipeE e2 vs0) (ts ++ [.lst true acc]) (vs ++ [v]) → Q v H' := q2
    exact q3 _ H2 F2 (R0.leave (R2.dropMid hl fun j z => by cases z) rfl fun d hd => by
      rcases List.mem_cons.mp hd with z | z
      · rw [z]; intro i q; cases q
      · exact absurd z List.not_mem_nil)
theorem ge_lc (own : List (Str × Nat)) (hc : X.calm = true) (hN : X.N.Nodup) (hi : GI X W tg iter it) (ok : BlkOk X.N X.env.scope scope own)
    (hg : ∀ (s : Shared) (H : Hp) (C : Addr) (cl : List (Str × Addr)) (fp : List Addr), GG (X.blk s H scope (compEnvC scope cl C X.env) fp) [] T tg g)
    (ht : ∀ (s : Shared) (H : Hp) (C : Addr) (cl : List (Str × Addr)) (fp : List Addr), GTs (X.blk s H scope (compEnvC scope cl C X.env) fp) WF ifs dt)
    (he : ∀ (s : Shared) (H : Hp) (C : Addr) (cl : List (Str × Addr)) (fp : List Addr), GEU (X.blk s H scope (compEnvC scope cl C X.env) fp) WF elt (dU de))
    (hT : ∀ i ∈ T, i ∈ own.map (·.2) := by decide) (hs : ∀ x, foldedSetIterable iter X.env x = pure x := by intro _; rfl) : GE X W (.ListComp elt [⟨tg, iter, ifs, 0⟩] scope pos) (dLc (own.map (·.2)) it g dt de) :=
  PE.imp (pe_lc (te := rdEU X.K X.mg WF (dU de)) (tt := rdT X.K X.mg WF dt) (g := rdG X.K X.mg [] T g) hc hN hi ok hg ht he hs) fun σ H Q h => lc_imp (dg := 0) hT h
/-- name = [..] on one line, the name a local of the frame -/
theorem gs_setLc {P : List Nat} {i : Nat} {y : Str} {py spos : Pos} (own : List (Str × Nat)) (hc : X.calm = true) (hN : X.N.Nodup) (hy : X.N[i]? = some y) (hyl : X.env.scope.names.lookup y = some .local) (hp : P.contains i = false)
    (hsw : swapsWith (.ListComp elt [⟨tg, iter, ifs, 0⟩] scope pos) (some (.Name y py)) spos.line X.env = pure true) (hi : GI X W tg iter it) (ok : BlkOk X.N X.env.scope scope own)
    (hg : ∀ (s : Shared) (H : Hp) (C : Addr) (cl : List (Str × Addr)) (fp : List Addr), GG (X.blk s H scope (compEnvC scope cl C X.env) fp) [] T tg g)
    (ht : ∀ (s : Shared) (H : Hp) (C : Addr) (cl : List (Str × Addr)) (fp : List Addr), GTs (X.blk s H scope (compEnvC scope cl C X.env) fp) WF ifs dt)
    (he : ∀ (s : Shared) (H : Hp) (C : Addr) (cl : List (Str × Addr)) (fp : List Addr), GEU (X.blk s H scope (compEnvC scope cl C X.env) fp) WF elt (dU de))
    (hT : ∀ i ∈ T, i ∈ own.map (·.2) := by decide) (hs : ∀ x, foldedSetIterable iter X.env x = pure x := by intro _; rfl) : GS X W P (.Assign [.Name y py] (.ListComp elt [⟨tg, iter, ifs, 0⟩] scope pos) spos) (nAsg i (dLc (own.map (·.2)) it g dt de)) := by
  refine PS.imp (ps_setLc (te := rdEU X.K X.mg WF (dU de)) (tt := rdT X.K X.mg WF dt) (g := rdG X.K X.mg [] T g) hc hN hy hyl hsw hi ok hg ht he hs) fun Tn σ H ⟨B, F, env, ts, vs, hpp, na, R, q⟩ => ?_
  refine lc_imp (dg := 0) hT ⟨B, F, env, ts, vs, R, ?_⟩
  have hsl := @dLc_sl it g dt de (own.map (·.2))
  unfold nAsg dU Dn.bind at q
  cases h1 : dLc (own.map (·.2)) it g dt de env with
  | no => rw [h1] at q; exact q.elim
  | er c ns xs e1 => rw [h1] at q; exact fun cls dx H' F' R' ee => q cls dx σ H' F' R' ee
  | ok d e1 =>
    have s1 := hsl h1
    rw [h1] at q
    have u1 : dUse d e1 = .ok d e1 := by
      cases d with
      | sl j => cases s1
      | _ => rfl
    have q' : OutP X.K X.mg W B ts vs Tn ((dUse d e1).out fun d e => .nx (e.set i d)) := q
    rw [u1] at q'
    exact fun v H' F' R' => q' _ H' F' (R'.store (pin_ne hpp hp) (fun j z => by rw [z] at s1; cases s1) na)
end
end DL
set_option Elab.async false
set_option linter.all false
set_option maxRecDepth 100000
set_option maxHeartbeats 2000000
/-! DLi: owned things change in their slots: lists, dicts. -/
namespace DL
open PySem L2

section
variable {K : PySem.W.Frag} {mg : Str → Option Value} {B : Bd} {σ : St} {F F' H H' : Hp} {env ts us : List D} {vs ws : List V} {d : D} {v : V} {ow : Own → List Addr}

theorem RpL.split : ∀ {xs ys : List D} {vs : List V} {S : List Addr}, RpL K mg F H (xs ++ ys) vs S → ∃ v1 v2 S1 S2, vs = v1 ++ v2 ∧ S = S1 ++ S2 ∧ RpL K mg F H xs v1 S1 ∧ RpL K mg F H ys v2 S2
  | [], ys, vs, S, h => ⟨[], vs, [], S, rfl, rfl, by unfold RpL; exact ⟨rfl, rfl⟩, h⟩
  | x :: xs, ys, vs, S, h => by
    have h' : RpL K mg F H (x :: (xs ++ ys)) vs S := h
    unfold RpL at h'
    obtain ⟨v, r, S1, S2, rfl, rfl, h1, h2⟩ := h'
    obtain ⟨v1, v2, T1, T2, rfl, rfl, q1, q2⟩ := RpL.split h2
    refine ⟨v :: v1, v2, S1 ++ T1, T2, rfl, (List.append_assoc _ _ _).symm, ?_, q2⟩
    unfold RpL
    exact ⟨v, v1, S1, T1, rfl, rfl, h1, q1⟩
theorem RpL.one (h : Rp K mg F H d v S) : RpL K mg F H [d] [v] S := by
  unfold RpL
  exact ⟨v, [], S, [], rfl, (List.append_nil _).symm, h, by unfold RpL; exact ⟨rfl, rfl⟩⟩
theorem RpL.cons {ds : List D} {r : List V} {S1 S2 : List Addr} (h : Rp K mg F H d v S1) (h2 : RpL K mg F H ds r S2) : RpL K mg F H (d :: ds) (v :: r) (S1 ++ S2) := by
  unfold RpL
  exact ⟨v, r, S1, S2, rfl, rfl, h, h2⟩
theorem RpL.one_inv {ws : List V} {S : List Addr} (h : RpL K mg F H [d] ws S) : ∃ v, ws = [v] ∧ Rp K mg F H d v S := by
  unfold RpL at h
  obtain ⟨v, r, S1, S2, rfl, rfl, h1, h2⟩ := h
  unfold RpL at h2
  obtain ⟨rfl, rfl⟩ := h2
  rw [List.append_nil]
  exact ⟨v, rfl, h1⟩
/-- an item and what stands around it -/
theorem RpL.at {ds : List D} {vs : List V} {S : List Addr} {k : Nat} (h : RpL K mg F H ds vs S) (e : ds[k]? = some d) :
    ∃ v v1 v2 S1 S2 S3, vs = v1 ++ v :: v2 ∧ v1.length = k ∧ S = S1 ++ (S2 ++ S3) ∧ RpL K mg F H (ds.take k) v1 S1 ∧ Rp K mg F H d v S2 ∧ RpL K mg F H (ds.drop (k + 1)) v2 S3 := by
  obtain ⟨hk, e'⟩ := List.getElem?_eq_some_iff.mp e
  have ed : ds = ds.take k ++ d :: ds.drop (k + 1) := by
    rw [← e', List.getElem_cons_drop, List.take_append_drop]
  rw [ed] at h
  obtain ⟨v1, v2, S1, S2, rfl, rfl, h1, h2⟩ := h.split
  unfold RpL at h2
  obtain ⟨v, r, T1, T2, rfl, rfl, q1, q2⟩ := h2
  have hl := h1.len
  rw [List.length_take] at hl
  have e3 : min k ds.length = k := by omega
  exact ⟨v, v1, r, S1, T1, T2, rfl, by rw [← hl, e3], rfl, h1, q1, q2⟩
theorem set_mid {α : Type} {v1 v2 : List α} {v u : α} {k : Nat} (h : v1.length = k) : (v1 ++ v :: v2).set k u = v1 ++ u :: v2 := by
  subst h
  simp
theorem get_mid {α : Type} {v1 v2 : List α} {v : α} {k : Nat} (h : v1.length = k) : (v1 ++ v :: v2)[k]? = some v := by
  subst h
  simp
theorem erase_mid {α : Type} {v1 v2 : List α} {v : α} {k : Nat} (h : v1.length = k) : (v1 ++ v :: v2).eraseIdx k = v1 ++ v2 := by
  subst h
  simp [List.eraseIdx_append_of_length_le]
theorem set_split {ds : List D} {k : Nat} {u : D} (h : k < ds.length) : ds.set k u = ds.take k ++ u :: ds.drop (k + 1) := by
  rw [List.set_eq_take_append_cons_drop, if_pos h]
theorem erase_split {ds : List D} {k : Nat} : ds.eraseIdx k = ds.take k ++ ds.drop (k + 1) := List.eraseIdx_eq_take_drop_succ ds k

/-- several temporaries are pushed -/
theorem REw.pushes : ∀ {rs : List D} {rvs : List V} {ts : List D} {vs : List V} {ow : Own → List Addr} {T : List Addr}, REw K mg B σ H F env ts vs ow → RpL K mg F H rs rvs T → (∀ a ∈ T, (∀ o, a ∉ ow o) ∧ F a = none ∧ ¬ B.out a) → T.Nodup → RE K mg B σ H F env (ts ++ rs) (vs ++ rvs)
  | [], rvs, ts, vs, ow, T, R, h, _, _ => by
    unfold RpL at h
    rw [h.1, List.append_nil, List.append_nil]
    exact ⟨ow, R⟩
  | d :: rs, rvs, ts, vs, ow, T, R, h, hn, nd => by
    unfold RpL at h
    obtain ⟨v, r, S1, S2, rfl, rfl, h1, h2⟩ := h
    obtain ⟨n1, n2, dis⟩ := List.nodup_append.mp nd
    have r1 := R.push (Tm.of h1) (fun a ha => hn a (List.mem_append_left _ ha)) n1
    have z := REw.pushes r1 h2 (fun a ha => ⟨fun o z => ?_, (hn a (List.mem_append_right _ ha)).2⟩) n2
    · rw [List.append_assoc, List.append_assoc] at z
      exact z
    · cases o with
      | s i => exact (hn a (List.mem_append_right _ ha)).1 _ z
      | t j =>
        unfold give at z
        dsimp only at z
        split at z
        · exact dis a z a ha rfl
        · exact (hn a (List.mem_append_right _ ha)).1 _ z

/-- THE CHANGE: what a slot owns is changed at p; arguments go in, results come out -/
theorem RE.mut {i : Nat} (R : RE K mg B σ H F env (ts ++ us) (vs ++ ws)) (hl : us.length = ws.length) (hn : noAl us) (he : env[i]? = some d) (hd : isUn d = false) :
    ∃ v S0 S1, σ[i]? = some (some v) ∧ Rp K mg F H d v S0 ∧ RpL K mg F H us ws S1 ∧ (S0 ++ S1).Nodup ∧
      ∀ (p : Addr) (o : HO) (d' : D) (rs : List D) (rvs : List V) (S' T : List Addr), p ∈ S0 → Rp K mg F (upd H p o) d' v S' → RpL K mg F (upd H p o) rs rvs T → (S' ++ T).Nodup → (∀ a ∈ S' ++ T, a ∈ S0 ++ S1) →
        RE K mg B σ (upd H p o) F (env.set i d') (ts ++ rs) (vs ++ rvs) := by
  obtain ⟨ow, r⟩ := R
  obtain ⟨ow1, S1, r1, rp1, nd1, hn1, es, sb, hin⟩ := r.takes hl hn
  obtain ⟨v, ev, rp0⟩ := r1.slot i d he (isUn_of hd)
  have hi : i < env.length := (List.getElem?_eq_some_iff.mp he).1
  have dis : ∀ a ∈ ow1 (.s i), ∀ b ∈ S1, a ≠ b := fun a ha b hb z => by
    subst z
    exact (hn1 a hb).1 _ ha
  refine ⟨v, ow1 (.s i), S1, ev, rp0, rp1, List.nodup_append.mpr ⟨r1.nod _, nd1, dis⟩, fun p o d' rs rvs S' T hp hd' hrs nd2 sub => ?_⟩
  have r2 := r1.unslot i
  have off : ∀ o a, a ∈ offS ow1 i [] o → a ∈ ow1 o ∧ o ≠ .s i := fun o a z => by
    by_cases q : o = .s i
    · subst q; rw [offS_in] at z; exact absurd z List.not_mem_nil
    · rw [offS_ne q] at z; exact ⟨z, q⟩
  have pn : ∀ o a, a ∈ offS ow1 i [] o → a ≠ p := fun o a z q => by
    subst q
    exact (off o a z).2 (r1.uniq _ _ a (off o a z).1 hp)
  have pf : F p = none := r1.fno _ p hp
  have po : ¬ B.out p := fun z => (r1.fr p z).2.2.2 _ hp
  have r3 : REw K mg B σ (upd H p o) F (env.set i .un) ts vs (offS ow1 i []) := r2.grow (Ex.refl F) (fun o' a ha => upd_ne (pn o' a ha)) r2.fno (fun a u hu => by
    rw [upd_ne fun z => by rw [z, pf] at hu; cases hu]
    exact r2.ex a u hu) fun a ha => ⟨upd_ne fun z => po (by rw [← z]; exact ha), rfl⟩
  have free : ∀ a ∈ S' ++ T, (∀ o, a ∉ offS ow1 i [] o) ∧ F a = none ∧ ¬ B.out a := fun a ha => by
    rcases List.mem_append.mp (sub a ha) with z | z
    · exact ⟨fun o q => (off o a q).2 (r1.uniq _ _ a (off o a q).1 z), r1.fno _ a z, fun q => (r1.fr a q).2.2.2 _ z⟩
    · exact ⟨fun o q => (hn1 a z).1 o (off o a q).1, (hn1 a z).2⟩
  obtain ⟨m1, m2, dis2⟩ := List.nodup_append.mp nd2
  have r4 := r3.putS (i := i) (v := v) (d := d') (S := S') (by simp [hi]) offS_in ev hd' (fun a ha => free a (List.mem_append_left _ ha)) m1
  rw [List.set_set] at r4
  refine r4.pushes hrs (fun a ha => ⟨fun o z => ?_, (free a (List.mem_append_right _ ha)).2⟩) m2
  by_cases q : o = .s i
  · subst q; rw [offS_in] at z; exact dis2 a z a ha rfl
  · rw [offS_ne q] at z; exact (free a (List.mem_append_right _ ha)).1 o z

/-- the value behind an alias -/
theorem RE.alias {i : Nat} (R : RE K mg B σ H F env (ts ++ .sl i :: us) (vs ++ v :: ws)) (hl : us.length = ws.length) : σ[i]? = some (some v) ∧ RE K mg B σ H F env (ts ++ us) (vs ++ ws) := by
  obtain ⟨ow, r⟩ := R
  have tl := r.tlen
  simp only [List.length_append, List.length_cons] at tl
  have hl2 : ts.length = vs.length := by omega
  have tm := r.temp ts.length (.sl i) v (by simp) (by rw [hl2]; simp)
  refine ⟨tm.1, ?_⟩
  -- the alias is dropped from the middle
  have f : ∀ k : Nat, (ts ++ us)[k]? = if k < ts.length then (ts ++ .sl i :: us)[k]? else (ts ++ .sl i :: us)[k + 1]? := fun k => by
    by_cases h : k < ts.length
    · rw [if_pos h, List.getElem?_append_left h, List.getElem?_append_left h]
    · rw [if_neg h, List.getElem?_append_right (by omega), List.getElem?_append_right (by omega)]
      rw [show k + 1 - ts.length = (k - ts.length) + 1 by omega, List.getElem?_cons_succ]
  have g : ∀ k : Nat, (vs ++ ws)[k]? = if k < ts.length then (vs ++ v :: ws)[k]? else (vs ++ v :: ws)[k + 1]? := fun k => by
    by_cases h : k < ts.length
    · rw [if_pos h, List.getElem?_append_left (by omega), List.getElem?_append_left (by omega)]
    · rw [if_neg h, List.getElem?_append_right (by omega), List.getElem?_append_right (by omega)]
      rw [show k + 1 - vs.length = (k - vs.length) + 1 by omega, List.getElem?_cons_succ]
  let ow' : Own → List Addr := fun o => match o with
    | .s i => ow (.s i)
    | .t k => if k < ts.length then ow (.t k) else ow (.t (k + 1))
  have back : ∀ o a, a ∈ ow' o → ∃ o', a ∈ ow o' ∧ (∀ i, o = .s i → o' = .s i) ∧ ∀ k, o = .t k → o' = .t (if k < ts.length then k else k + 1) := fun o a ha => by
    cases o with
    | s j => exact ⟨.s j, ha, fun _ z => z, fun k z => by cases z⟩
    | t k =>
      have ha' : a ∈ (if k < ts.length then ow (.t k) else ow (.t (k + 1))) := ha
      refine ⟨.t (if k < ts.length then k else k + 1), ?_, fun _ z => (by cases z), fun k' z => by cases z; rfl⟩
      by_cases h : k < ts.length
      · rw [if_pos h] at ha' ⊢; exact ha'
      · rw [if_neg h] at ha' ⊢; exact ha'
  refine ⟨ow', r.len, by simp; omega, r.slot, r.sun, fun k d w e1 e2 => ?_, fun k hk => ?_, fun o o' a h1 h2 => ?_, fun o => ?_, fun o a h => ?_, r.ex, fun a ha => ?_, r.pin⟩
  · rw [f] at e1
    rw [g] at e2
    show Tm K mg F H σ d w (if k < ts.length then ow (.t k) else ow (.t (k + 1)))
    by_cases h : k < ts.length
    · rw [if_pos h] at e1 e2 ⊢; exact r.temp k d w e1 e2
    · rw [if_neg h] at e1 e2 ⊢; exact r.temp (k + 1) d w e1 e2
  · simp only [List.length_append] at hk
    show (if k < ts.length then ow (.t k) else ow (.t (k + 1))) = []
    rw [if_neg (by omega)]
    exact r.tun (k + 1) (by simp; omega)
  · obtain ⟨p, q1, q2, q3⟩ := back o a h1
    obtain ⟨p', q1', q2', q3'⟩ := back o' a h2
    have e := r.uniq p p' a q1 q1'
    cases o with
    | s j =>
      have e1 := q2 j rfl
      cases o' with
      | s j' => have e2 := q2' j' rfl; rw [e1, e2] at e; exact e
      | t k' => have e2 := q3' k' rfl; rw [e1, e2] at e; cases e
    | t k =>
      have e1 := q3 k rfl
      cases o' with
      | s j' => have e2 := q2' j' rfl; rw [e1, e2] at e; cases e
      | t k' =>
        have e2 := q3' k' rfl
        rw [e1, e2] at e
        have e4 : (if k < ts.length then k else k + 1) = if k' < ts.length then k' else k' + 1 := Own.t.inj e
        have : k = k' := by
          by_cases h : k < ts.length <;> by_cases h' : k' < ts.length
          · rw [if_pos h, if_pos h'] at e4; exact e4
          · rw [if_pos h, if_neg h'] at e4; omega
          · rw [if_neg h, if_pos h'] at e4; omega
          · rw [if_neg h, if_neg h'] at e4; omega
        rw [this]
  · cases o with
    | s j => exact r.nod _
    | t k =>
      show (if k < ts.length then ow (.t k) else ow (.t (k + 1))).Nodup
      split
      · exact r.nod _
      · exact r.nod _
  · obtain ⟨p, q1, _⟩ := back o a h
    exact r.fno p a q1
  · obtain ⟨h1, h2, h3, h4⟩ := r.fr a ha
    refine ⟨h1, h2, h3, fun o z => ?_⟩
    obtain ⟨p, q1, _⟩ := back o a z
    exact h4 p q1
end

/-! ### d[k] -/
def asKey : D → Option Key
  | .int i => some (.inl i)
  | .str x => some (.inr x)
  | _ => none
theorem asKey_rp {K : PySem.W.Frag} {mg : Str → Option Value} {F H : Hp} {d : D} {v : V} {S : List Addr} {k : Key} (h : Rp K mg F H d v S) (e : asKey d = some k) : v = kV k := by
  cases d with
  | int i => cases e; unfold Rp at h; exact h.1
  | str x => cases e; unfold Rp at h; exact h.1
  | _ => cases e
/-- the place of a key -/
def kIx : List Key → Key → Option Nat
  | [], _ => none
  | j :: ks, k => if j = k then some 0 else (kIx ks k).map (· + 1)
theorem kIx_lt : ∀ {ks : List Key} {k : Key} {i : Nat}, kIx ks k = some i → i < ks.length
  | [], k, i, h => by cases h
  | j :: ks, k, i, h => by
    unfold kIx at h
    by_cases c : j = k
    · rw [if_pos c] at h; cases h; simp
    · rw [if_neg c] at h
      obtain ⟨m, hm, rfl⟩ := Option.map_eq_some_iff.mp h
      have := kIx_lt hm
      simp; omega
theorem valV_kIx : ∀ {ks : List Key} {vs : List V} {k : Key}, ks.length = vs.length → valV (ks.zip vs) k = (kIx ks k).bind fun i => vs[i]?
  | [], vs, k, h => by rw [List.zip_nil_left]; rfl
  | j :: ks, [], k, h => by cases h
  | j :: ks, v :: vs, k, h => by
    rw [List.zip_cons_cons]
    unfold kIx
    by_cases c : j = k
    · rw [if_pos c, valV_pos c]; rfl
    · rw [if_neg c, valV_neg c, valV_kIx (by simpa using h), Option.bind_map]
      cases kIx ks k <;> rfl
theorem putK_kIx : ∀ {ks : List Key} {vs : List V} {k : Key} {i : Nat} {u : V}, ks.length = vs.length → kIx ks k = some i → ks.Nodup → putK (ks.zip vs) k u = ks.zip (vs.set i u)
  | [], vs, k, i, u, h, e, nd => by cases e
  | j :: ks, [], k, i, u, h, e, nd => by cases h
  | j :: ks, v :: vs, k, i, u, h, e, nd => by
    obtain ⟨nj, nd'⟩ := List.nodup_cons.mp nd
    unfold kIx at e
    by_cases c : j = k
    · rw [if_pos c] at e
      cases e
      subst c
      have hm : ∀ {ks : List Key} {vs : List V}, j ∉ ks → (ks.zip vs).map (fun kv => if kv.1 = j then (kv.1, u) else kv) = ks.zip vs := by
        intro ks
        induction ks with
        | nil => intro vs _; rfl
        | cons x ks ih =>
          intro vs hx
          cases vs with
          | nil => rfl
          | cons y vs =>
            rw [List.zip_cons_cons, List.map_cons, ih fun z => hx (List.mem_cons_of_mem _ z), if_neg fun (z : x = j) => hx (by rw [z]; exact List.mem_cons_self)]
      unfold putK
      rw [List.zip_cons_cons, if_pos (by simp), List.map_cons, if_pos rfl, hm nj]
      rfl
    · rw [if_neg c] at e
      obtain ⟨m, hm, rfl⟩ := Option.map_eq_some_iff.mp e
      have ih := putK_kIx (u := u) (by simpa using h) hm nd'
      have an : ((ks.zip vs).any fun kv => decide (kv.1 = k)) = true := by
        rw [valV_any, valV_kIx (by simpa using h), hm]
        have l := kIx_lt hm
        have l2 : m < vs.length := by
          have : ks.length = vs.length := by simpa using h
          omega
        simp [l2]
      unfold putK at ih ⊢
      rw [if_pos an] at ih
      rw [List.zip_cons_cons, if_pos (by rw [List.any_cons, an, Bool.or_true]), List.map_cons, if_neg c, ih]
      rfl
theorem putK_new : ∀ {kvs : List (Key × V)} {k : Key} {u : V}, valV kvs k = none → putK kvs k u = kvs ++ [(k, u)] := fun {kvs k u} h => by
  unfold putK
  rw [if_neg]
  rw [valV_any, h]
  exact Bool.false_ne_true

def fGet : D → D → Option D
  | .dct _ ks xs, k => (asKey k).bind fun k => (kIx ks k).bind fun i => (xs[i]?).bind fun d => if froz d then some d else none
  | _, _ => none
def rGet : R2 := fun x y H Q => ∃ a v, x = .ref a ∧ DGet H a y (some v) ∧ Q v H
section
variable {K : PySem.W.Frag} {mg : Str → Option Value} {B : Bd} {σ : St} {F F' H H' : Hp} {env ts us : List D} {vs ws : List V} {d : D} {v : V} {ow : Own → List Addr}
theorem dct_inv {o : Bool} {ks : List Key} {xs : List D} {S : List Addr} (h : Rp K mg F H (.dct o ks xs) v S) (e : Ex F H) : ∃ a vs S', v = .ref a ∧ ks.length = xs.length ∧ RpL K mg F H xs vs S' ∧ Rd H a (.dK (ks.zip vs)) := by
  unfold Rp at h
  obtain ⟨a, vs, S', rfl, hk, hl, ho⟩ := h
  cases o with
  | true => rw [if_pos rfl] at ho; exact ⟨a, vs, S', rfl, hk, hl, .inl ho.1⟩
  | false => rw [if_neg Bool.false_ne_true] at ho; exact ⟨a, vs, S', rfl, hk, hl, e.rd ho.1⟩
theorem os_get : OpS K mg rGet fGet := by
  intro B σ H F env ts vs dx dy vx vy Sx Sy d Q R rx ry e k
  cases dx with
  | dct o ks xs =>
    unfold fGet at e
    obtain ⟨ky, e1, e⟩ := Option.bind_eq_some_iff.mp e
    obtain ⟨i, e2, e⟩ := Option.bind_eq_some_iff.mp e
    obtain ⟨x, e3, e⟩ := Option.bind_eq_some_iff.mp e
    by_cases hf : froz x = true
    · rw [if_pos hf] at e
      cases e
      have ex : Ex F H := let ⟨_, r⟩ := R; r.ex
      obtain ⟨a, us, S', rfl, hk, hl, hr⟩ := dct_inv rx ex
      have ey := asKey_rp ry e1
      subst ey
      obtain ⟨w, v1, v2, T1, T2, T3, rfl, hl1, _, _, hw, _⟩ := hl.at e3
      refine ⟨a, w, rfl, .inl ⟨_, ky, hr, rfl, ?_⟩, ?_⟩
      · rw [valV_kIx (by rw [hk, hl.len]), e2]
        exact (get_mid hl1).symm
      · have e0 := hw.froz hf
        subst e0
        exact k w H F (R.push0 (Tm.of hw))
    · rw [if_neg hf] at e; cases e
  | _ => cases e
end
theorem ge_dget {X : Cx} {W : WX} {o i : Expr} {pos : Pos} {da db : Dn D} (hu : X.A.units + 1 < cLine) (ha : GE X W o da) (hb : GE X W i db) (hs : NoSl i := by intro _ _; rfl) : GE X W (.Subscript o i pos) (dOp fGet da db) :=
  PE.imp (pe_dget hu ha hb hs) fun σ H Q h => op_imp (t := fun _ _ _ => True) (r := rGet) os_get (fun y => rfl) (fun x => by cases x <;> rfl) h

/-! ### d[k] = e -/
/-- the slot's dict changes; keys stand apart -/
def putD (d : D) (k : Key) (u : D) : Option D := match d with
  | .dct true ks xs => match kIx ks k with
    | some i => if decide (ks.Nodup) && decide (ks.length < sizeLine) then some (.dct true ks (xs.set i u)) else none
    | none => if decide (ks.length < sizeLine) then some (.dct true (ks ++ [k]) (xs ++ [u])) else none
  | _ => none
/-- value, then the dict, then the key -/
@[simp] def nDput (a o k : Dn D) : Sn := fun env => (dU a env).out fun u e => (o e).out fun x e => (k e).out fun y e => match x with
  | .sl i => match (asKey (rs e y)).bind fun k => putD (e.getD i .un) k u with
    | some d => .nx (e.set i d)
    | none => .no
  | _ => .no
section
variable {K : PySem.W.Frag} {mg : Str → Option Value} {B : Bd} {σ : St} {F F' H H' : Hp} {env ts us : List D} {vs ws : List V} {d : D} {v : V} {ow : Own → List Addr}
theorem RE.putD {i : Nat} {u d' : D} {k : Key} {p : V} (R : RE K mg B σ H F env (ts ++ [u]) (vs ++ [v])) (hu : ∀ i, u ≠ .sl i) (hp : σ[i]? = some (some p)) (h : DL.putD (env.getD i .un) k u = some d') :
    ∃ a H', p = .ref a ∧ DPut H a (kV k) v H' ∧ RE K mg B σ H' F (env.set i d') ts vs := by
  rw [List.getD_eq_getElem?_getD] at h
  cases he : env[i]? with
  | none => rw [he] at h; cases h
  | some d =>
    rw [he, Option.getD_some] at h
    cases d with
    | dct o ks xs =>
      cases o with
      | false => cases h
      | true =>
        obtain ⟨v', S0, S1, ev, rp0, rp1, nd, go⟩ := R.mut rfl (fun x hx => by
          rcases List.mem_cons.mp hx with z | z
          · rw [z]; exact hu
          · exact absurd z List.not_mem_nil) he rfl
        rw [hp] at ev
        cases ev
        obtain ⟨u', eu, ru⟩ := rp1.one_inv
        cases eu
        unfold Rp at rp0
        obtain ⟨a, ws, S', rfl, hk, hl, ho⟩ := rp0
        rw [if_pos rfl] at ho
        obtain ⟨ha, rfl⟩ := ho
        have hlw := hl.len
        obtain ⟨nd0, nd1, dis⟩ := List.nodup_append.mp nd
        obtain ⟨na, nd2⟩ := List.nodup_cons.mp nd0
        have an : ∀ b ∈ S1, b ≠ a := fun b hb z => dis a List.mem_cons_self b hb z.symm
        unfold DL.putD at h
        dsimp only at h
        have dK := DPut.k (v := v) (k := k) ha
        have el : (ks.zip ws).length = ks.length := by rw [List.length_zip]; omega
        cases hx : kIx ks k with
        | none =>
          rw [hx] at h
          dsimp only at h
          by_cases hz : ks.length < sizeLine
          · rw [decide_eq_true hz, if_pos rfl] at h
            cases h
            refine ⟨a, _, rfl, dK (by rw [el]; exact hz), ?_⟩
            have e1 : putK (ks.zip ws) k v = (ks ++ [k]).zip (ws ++ [v]) := by
              rw [putK_new (by rw [valV_kIx (by omega), hx]; rfl), List.zip_append (by omega)]
              rfl
            rw [e1]
            have z := go a (.dK ((ks ++ [k]).zip (ws ++ [v]))) (.dct true (ks ++ [k]) (xs ++ [u])) [] [] (a :: (S' ++ S1)) [] List.mem_cons_self ?_ (by unfold RpL; exact ⟨rfl, rfl⟩) ?_ ?_
            · rw [List.append_nil, List.append_nil] at z; exact z
            · unfold Rp
              exact ⟨a, ws ++ [v], S' ++ S1, rfl, by simp [hk], (hl.stay (Ex.refl F) fun b hb => upd_ne fun z => na (by rw [← z]; exact hb)).append (RpL.one (ru.stay (Ex.refl F) fun b hb => upd_ne (an b hb))), by rw [if_pos rfl]; exact ⟨upd_same, rfl⟩⟩
            · rw [List.append_nil]; exact nd
            · intro b hb; rw [List.append_nil] at hb; exact hb
          · rw [decide_eq_false hz, if_neg Bool.false_ne_true] at h; cases h
        | some j =>
          rw [hx] at h
          dsimp only at h
          by_cases hz : (decide ks.Nodup && decide (ks.length < sizeLine)) = true
          · rw [if_pos hz] at h
            rw [Bool.and_eq_true, decide_eq_true_eq, decide_eq_true_eq] at hz
            cases h
            have hj := kIx_lt hx
            obtain ⟨x, hx2⟩ : ∃ x, xs[j]? = some x := ⟨xs[j]'(by omega), by simp⟩
            obtain ⟨w, v1, v2, T1, T2, T3, rfl, hl1, rfl, q1, q2, q3⟩ := hl.at hx2
            refine ⟨a, _, rfl, dK (by rw [el]; exact hz.2), ?_⟩
            rw [putK_kIx (by omega) hx hz.1, set_mid hl1]
            have st : ∀ {b : Addr}, b ∈ T1 ++ (T2 ++ T3) → b ≠ a := fun {b} hb z => na (by rw [← z]; exact hb)
            have n13 : (T1 ++ T3).Nodup ∧ ∀ b ∈ T1 ++ T3, b ∈ T1 ++ (T2 ++ T3) := by
              obtain ⟨m1, m2, m3⟩ := List.nodup_append.mp nd2
              obtain ⟨m4, m5, m6⟩ := List.nodup_append.mp m2
              refine ⟨List.nodup_append.mpr ⟨m1, m5, fun b hb c hc => m3 b hb c (List.mem_append_right _ hc)⟩, fun b hb => ?_⟩
              rcases List.mem_append.mp hb with z | z
              · exact List.mem_append_left _ z
              · exact List.mem_append_right _ (List.mem_append_right _ z)
            have sub : ∀ b ∈ a :: (T1 ++ (S1 ++ T3)), b ∈ (a :: (T1 ++ (T2 ++ T3))) ++ S1 := fun b hb => by
              rcases List.mem_cons.mp hb with z | z
              · rw [z]; exact List.mem_append_left _ List.mem_cons_self
              · rcases List.mem_append.mp z with z | z
                · exact List.mem_append_left _ (List.mem_cons_of_mem _ (List.mem_append_left _ z))
                · rcases List.mem_append.mp z with z | z
                  · exact List.mem_append_right _ z
                  · exact List.mem_append_left _ (List.mem_cons_of_mem _ (List.mem_append_right _ (List.mem_append_right _ z)))
            have z := go a (.dK (ks.zip (v1 ++ v :: v2))) (.dct true ks (xs.set j u)) [] [] (a :: (T1 ++ (S1 ++ T3))) [] List.mem_cons_self ?_ (by unfold RpL; exact ⟨rfl, rfl⟩) ?_ ?_
            · rw [List.append_nil, List.append_nil] at z; exact z
            · unfold Rp
              refine ⟨a, v1 ++ v :: v2, T1 ++ (S1 ++ T3), rfl, by simp [hk], ?_, by rw [if_pos rfl]; exact ⟨upd_same, rfl⟩⟩
              rw [set_split (by omega)]
              exact (q1.stay (Ex.refl F) fun b hb => upd_ne (st (List.mem_append_left _ hb))).append (RpL.cons (ru.stay (Ex.refl F) fun b hb => upd_ne (an b hb)) (q3.stay (Ex.refl F) fun b hb => upd_ne (st (List.mem_append_right _ (List.mem_append_right _ hb)))))
            · rw [List.append_nil]
              obtain ⟨m1, m2, m3⟩ := List.nodup_append.mp n13.1
              refine List.nodup_cons.mpr ⟨fun hb => ?_, List.nodup_append.mpr ⟨m1, List.nodup_append.mpr ⟨nd1, m2, fun b hb c hc z => ?_⟩, fun b hb c hc z => ?_⟩⟩
              · rcases List.mem_append.mp hb with hb | hb
                · exact st (List.mem_append_left _ hb) rfl
                · rcases List.mem_append.mp hb with hb | hb
                  · exact an a hb rfl
                  · exact st (List.mem_append_right _ (List.mem_append_right _ hb)) rfl
              · subst z
                exact dis b (List.mem_cons_of_mem _ (n13.2 b (List.mem_append_right _ hc))) b hb rfl
              · subst z
                rcases List.mem_append.mp hc with hc | hc
                · exact dis b (List.mem_cons_of_mem _ (n13.2 b (List.mem_append_left _ hb))) b hc rfl
                · exact m3 b hb b hc rfl
            · intro b hb; rw [List.append_nil] at hb; exact sub b hb
          · rw [if_neg hz] at h; cases h
    | _ => cases h
end
theorem gs_dput {X : Cx} {W : WX} {P : List Nat} {o i value : Expr} {pos pos' : Pos} {dv da dk : Dn D} (hu : X.A.units + 1 < cLine) (ha : GE X W o da) (hi : GE X W i dk) (hv : GEU X W value (dU dv)) (hs : swapsWith value (some (.Subscript o i pos')) pos.line X.env = pure false := by rfl) :
    GS X W P (.Assign [.Subscript o i pos'] value pos) (nDput dv da dk) := by
  refine PS.imp (ps_dput hu ha hi hv hs) fun T σ H ⟨B, F, env, ts, vs, hpp, na, R, q⟩ => ?_
  unfold nDput at q
  refine ⟨B, F, env, ts, vs, R, (ResP.out q).mono (fun u e1 q1 v H1 F1 hud R1 => ?_) fun _ _ _ _ z => z⟩
  refine ⟨B, F1, e1, ts ++ [u], vs ++ [v], R1, (ResP.out q1).mono (fun x e2 q2 w H2 F2 R2 => ?_) fun _ _ _ _ z => z.pop rfl⟩
  refine ⟨B, F2, e2, _, _, R2, (ResP.out q2).mono (fun y e3 q3 z H3 F3 R3 => ?_) fun _ _ _ _ z => by rw [List.append_assoc, List.append_assoc]; exact z.pop rfl⟩
  cases x with
  | sl j =>
    dsimp only at q3
    cases hk : (asKey (rs e3 y)).bind fun k => DL.putD (e3.getD j .un) k u with
    | none => rw [hk] at q3; exact q3.elim
    | some d =>
      rw [hk] at q3
      obtain ⟨k, ek, ed⟩ := Option.bind_eq_some_iff.mp hk
      obtain ⟨S, ry⟩ := R3.last (fun c => by rw [c] at ek; cases ek)
      have ey := asKey_rp ry ek
      subst ey
      have R4 := R3.drop rfl
      obtain ⟨hj, R5⟩ := RE.alias (us := []) (ws := []) R4 rfl
      rw [List.append_nil, List.append_nil] at R5
      obtain ⟨a, H4, rfl, hp, R6⟩ := R5.putD hud hj ed
      exact ⟨a, H4, rfl, hp, q3 σ H4 F3 R6⟩
  | _ => exact q3.elim
end DL
set_option Elab.async false
set_option linter.all false
set_option maxRecDepth 100000
set_option maxHeartbeats 2000000
/-! DLj: owned lists change in their slots; methods. -/
namespace DL
open PySem L2

section
variable {K : PySem.W.Frag} {mg : Str → Option Value} {B : Bd} {σ : St} {F F' H H' : Hp} {env ts us : List D} {vs ws : List V} {d : D} {v : V} {ow : Own → List Addr}
theorem RpL.nil : RpL K mg F H [] [] [] := by unfold RpL; exact ⟨rfl, rfl⟩
/-- counts tell all: no address twice, none that is new -/
theorem cnt_nd {S T : List Addr} (h : ∀ a, T.count a ≤ S.count a) (nd : S.Nodup) : T.Nodup ∧ ∀ a ∈ T, a ∈ S := by
  refine ⟨List.nodup_iff_count.mpr fun a => Nat.le_trans (h a) (List.nodup_iff_count.mp nd a), fun a ha => ?_⟩
  have := List.count_pos_iff.mpr ha
  exact List.count_pos_iff.mp (Nat.lt_of_lt_of_le this (h a))

/-- an owned list in a slot: its items, and how it changes -/
theorem RE.lmut {i : Nat} {p : V} {xs : List D} (R : RE K mg B σ H F env (ts ++ us) (vs ++ ws)) (hl : us.length = ws.length) (hn : noAl us) (he : env[i]? = some (.lst true xs)) (hp : σ[i]? = some (some p)) :
    ∃ a zs S0 S1, p = .ref a ∧ H a = some (.lst zs) ∧ RpL K mg F H xs zs S0 ∧ RpL K mg F H us ws S1 ∧ ∀ (xs' : List D) (zs' : List V) (rs : List D) (rvs : List V) (S' T : List Addr), RpL K mg F H xs' zs' S' → RpL K mg F H rs rvs T → (∀ b, (S' ++ T).count b ≤ (S0 ++ S1).count b) →
      RE K mg B σ (upd H a (.lst zs')) F (env.set i (.lst true xs')) (ts ++ rs) (vs ++ rvs) := by
  obtain ⟨v', S0, S1, ev, rp0, rp1, nd, go⟩ := R.mut hl hn he rfl
  rw [hp] at ev
  cases ev
  unfold Rp at rp0
  obtain ⟨a, zs, S', rfl, hz, ho⟩ := rp0
  rw [if_pos rfl] at ho
  obtain ⟨ha, rfl⟩ := ho
  refine ⟨a, zs, S', S1, rfl, ha, hz, rp1, fun xs' zs' rs rvs S2 T h1 h2 hc => ?_⟩
  have ndc := List.nodup_iff_count.mp nd
  have na : ∀ {b : Addr}, b ∈ S2 ++ T → b ≠ a := fun {b} hb z => by
    subst z
    have q1 := List.count_pos_iff.mpr hb
    have q2 := hc b
    have q3 := ndc b
    rw [List.cons_append, List.count_cons_self] at q3
    omega
  obtain ⟨n1, n2⟩ := cnt_nd (S := (a :: S') ++ S1) (T := (a :: S2) ++ T) (fun b => by
    rw [List.cons_append, List.cons_append, List.count_cons, List.count_cons]
    have := hc b
    omega) nd
  refine go a (.lst zs') (.lst true xs') rs rvs (a :: S2) T List.mem_cons_self ?_ (h2.stay (Ex.refl F) fun b hb => upd_ne (na (List.mem_append_right _ hb))) n1 n2
  unfold Rp
  exact ⟨a, zs', S2, rfl, h1.stay (Ex.refl F) fun b hb => upd_ne (na (List.mem_append_left _ hb)), by rw [if_pos rfl]; exact ⟨upd_same, rfl⟩⟩

/-! ### xs[i] = e -/
def setL : D → D → D → Option D
  | .lst true xs, .int i, u => (ixN xs.length i).map fun j => .lst true (xs.set j u)
  | _, _, _ => none
theorem RE.setL {i : Nat} {u d' dj : D} {p vj : V} {Sj : List Addr} (R : RE K mg B σ H F env (ts ++ [u]) (vs ++ [v])) (hu : ∀ i, u ≠ .sl i) (hp : σ[i]? = some (some p)) (rj : Rp K mg F H dj vj Sj) (h : DL.setL (env.getD i .un) dj u = some d') {Q : Hp → Prop}
    (q : ∀ H', RE K mg B σ H' F (env.set i d') ts vs → Q H') : rSetL p vj v H Q := by
  rw [List.getD_eq_getElem?_getD] at h
  cases he : env[i]? with
  | none => rw [he] at h; cases h
  | some d =>
    rw [he, Option.getD_some] at h
    cases d with
    | lst o xs =>
      cases o with
      | false => cases h
      | true =>
        cases dj with
        | int k =>
          unfold DL.setL at h
          obtain ⟨j, hj, rfl⟩ := Option.map_eq_some_iff.mp h
          unfold Rp at rj
          obtain ⟨rfl, _⟩ := rj
          obtain ⟨a, zs, S0, S1, rfl, ha, hz, rw1, go⟩ := R.lmut rfl (fun x hx => by
            rcases List.mem_cons.mp hx with z | z
            · rw [z]; exact hu
            · exact absurd z List.not_mem_nil) he hp
          obtain ⟨u', eu, ru⟩ := rw1.one_inv
          cases eu
          have hlt := (ixN_seq hj).2.1
          obtain ⟨x, hx⟩ : ∃ x, xs[j]? = some x := ⟨xs[j]'hlt, by simp [hlt]⟩
          obtain ⟨w, v1, v2, T1, T2, T3, rfl, hl1, rfl, q1, q2, q3⟩ := hz.at hx
          refine ⟨a, _, k, j, rfl, rfl, ha, by rw [← hz.len]; exact hj, ?_⟩
          rw [set_mid hl1]
          refine q _ ?_
          have z := go (xs.set j u) (v1 ++ v :: v2) [] [] (T1 ++ (S1 ++ T3)) [] ?_ RpL.nil fun b => ?_
          · rw [List.append_nil, List.append_nil] at z; exact z
          · rw [set_split hlt]
            exact q1.append (RpL.cons ru q3)
          · simp only [List.count_append, List.count_nil]
            omega
        | _ => cases h
    | _ => cases h
end
/-- value, then the list, then the place -/
@[simp] def nLput (a o k : Dn D) : Sn := fun env => (dU a env).out fun u e => (o e).out fun x e => (k e).out fun y e => match x with
  | .sl i => match setL (e.getD i .un) (rs e y) u with
    | some d => .nx (e.set i d)
    | none => .no
  | _ => .no
theorem gs_lput {X : Cx} {W : WX} {P : List Nat} {o i value : Expr} {pos pos' : Pos} {dv da dk : Dn D} (ha : GE X W o da) (hi : GE X W i dk) (hv : GEU X W value (dU dv)) (hs : swapsWithSole [.Subscript o i pos'] value pos.line X.env = pure false := by rfl) (hw : swappedStores [.Subscript o i pos'] value X.env = pure none := by rfl)
    (has : ∀ v, assign (.Subscript o i pos') X.env v = (do
      let ov ← holding [v] (eval o X.env)
      let iv ← holding [v, ov] (eval i X.env)
      standAt pos'
      holding [v, ov, iv] (setItem ov iv v)
      release [v, ov, iv] []) := by intro _; rfl) :
    GS X W P (.Assign [.Subscript o i pos'] value pos) (nLput dv da dk) := by
  refine PS.imp (ps_asg hv (pg_sub ha hi set_list has) hs hw) fun T σ H ⟨B, F, env, ts, vs, hpp, na, R, q⟩ => ?_
  unfold nLput at q
  refine ⟨B, F, env, ts, vs, R, (ResP.out q).mono (fun u e1 q1 v H1 F1 hud R1 => ?_) fun _ _ _ _ z => z⟩
  refine ⟨B, F1, e1, ts ++ [u], vs ++ [v], R1, (ResP.out q1).mono (fun x e2 q2 w H2 F2 R2 => ?_) fun _ _ _ _ z => z.pop rfl⟩
  refine ⟨B, F2, e2, _, _, R2, (ResP.out q2).mono (fun y e3 q3 z H3 F3 R3 => ?_) fun _ _ _ _ z => by rw [List.append_assoc, List.append_assoc]; exact z.pop rfl⟩
  cases x with
  | sl j =>
    dsimp only at q3
    cases hk : DL.setL (e3.getD j .un) (rs e3 y) u with
    | none => rw [hk] at q3; exact q3.elim
    | some d =>
      rw [hk] at q3
      obtain ⟨S, ry⟩ := R3.last (fun c => by
        rw [c] at hk
        unfold DL.setL at hk
        split at hk
        · rename_i h; cases h
        · cases hk)
      obtain ⟨hj, R5⟩ := RE.alias (us := []) (ws := []) (R3.drop rfl) rfl
      rw [List.append_nil, List.append_nil] at R5
      exact R5.setL hud hj ry hk fun H' R6 => q3 σ H' F3 R6
  | _ => exact q3.elim

/-! ### methods that change -/
def MtS (K : PySem.W.Frag) (mg : Str → Option Value) (r : V → List V → Hp → VK → Prop) (f : D → List D → Option (D × D)) : Prop :=
  ∀ (B : Bd) (σ : St) (H F : Hp) (env ts us : List D) (vs ws : List V) (i : Nat) (p : V) (d' res : D) (Q : VK), RE K mg B σ H F env (ts ++ us) (vs ++ ws) → us.length = ws.length → noAl us → isUn (env.getD i .un) = false → σ[i]? = some (some p) → f (env.getD i .un) us = some (d', res) →
    (∀ v H', RE K mg B σ H' F (env.set i d') (ts ++ [res]) (vs ++ [v]) → Q v H') → r p ws H Q
def isL : D → Bool
  | .lst _ _ => true
  | _ => false
def isDct : D → Bool
  | .dct true _ _ => true
  | _ => false
@[simp] def dMeth (isT : D → Bool) (f : D → List D → Option (D × D)) (o : Dn D) (as : Dn (List D)) : Dn D := o.bind fun x env => match x with
  | .sl i => if isT (env.getD i .un) then (as env).bind fun us e => match f (e.getD i .un) us with
      | some (d', r) => if isUn (e.getD i .un) then .no else .ok r (e.set i d')
      | none => .no
    else .no
  | _ => .no
/-- the type that a method wants -/
def TyOK (K : PySem.W.Frag) (mg : Str → Option Value) (T : String) (isT : D → Bool) : Prop := ∀ (F H : Hp) (d : D) (v : V) (S : List Addr), Ex F H → Rp K mg F H d v S → isT d = true → tyV K T v H
theorem tyOK_list {K : PySem.W.Frag} {mg : Str → Option Value} : TyOK K mg "list" isL := fun F H d v S ex h e => by
  cases d with
  | lst o xs =>
    obtain ⟨a, vs, S', rfl, _, ha⟩ := lst_inv h ex
    exact .inl ⟨rfl, _, Or.inl (Or.inl ha)⟩
  | _ => cases e
theorem tyOK_dict {K : PySem.W.Frag} {mg : Str → Option Value} : TyOK K mg "dict" isDct := fun F H d v S ex h e => by
  cases d with
  | dct o ks xs =>
    cases o with
    | false => cases e
    | true =>
      unfold Rp at h
      obtain ⟨a, vs, S', rfl, hk, hl, ho⟩ := h
      rw [if_pos rfl] at ho
      exact .inr (.inr (.inl ⟨rfl, .inl ⟨_, ho.1⟩⟩))
  | _ => cases e
section
variable {X : Cx} {W : WX} {o e : Expr} {es : List Expr} {da : Dn D} {dr : Dn (List D)} {name : Str} {apos cpos : Pos} {T id : String} {r : V → List V → Hp → VK → Prop} {isT : D → Bool} {f : D → List D → Option (D × D)}
theorem RE.tyIs {K : PySem.W.Frag} {mg : Str → Option Value} {B : Bd} {σ : St} {F H : Hp} {env ts : List D} {vs : List V} {i : Nat} {v : V} (hT : TyOK K mg T isT) (R : RE K mg B σ H F env ts vs) (hv : σ[i]? = some (some v)) (hu : isUn (env.getD i .un) = false) (h : isT (env.getD i .un) = true) : tyV K T v H := by
  obtain ⟨ow, r⟩ := R
  rw [List.getD_eq_getElem?_getD] at h hu
  cases he : env[i]? with
  | none => rw [he] at hu; cases hu
  | some d =>
    rw [he, Option.getD_some] at h hu
    obtain ⟨v', ev, rp⟩ := r.slot i d he (isUn_of hu)
    rw [hv] at ev
    cases ev
    exact hT F H d v _ r.ex rp h
theorem meth_imp (hT : TyOK X.K X.mg T isT) (hT0 : isT .un = false) (hr : MtS X.K X.mg r f) {σ : St} {H : Hp} {Q : VK} (h : rdE X.K X.mg W (dMeth isT f da dr) σ H Q) : tBM X.K T r (rdE X.K X.mg W da) (rdAU X.K X.mg W dr) σ H Q := by
  obtain ⟨B, F, env, ts, vs, R, q⟩ := h
  refine ⟨B, F, env, ts, vs, R, (ResP.bind q).mono (fun x e1 q1 v H1 F1 R1 => ?_) fun _ _ _ _ z => z⟩
  cases x with
  | sl i =>
    dsimp only at q1
    by_cases ht : isT (e1.getD i .un) = true
    · rw [if_pos ht] at q1
      obtain ⟨hv, R2⟩ := RE.alias (us := []) (ws := []) R1 rfl
      rw [List.append_nil, List.append_nil] at R2
      have hu : isUn (e1.getD i .un) = false := by
        cases c : e1.getD i .un with
        | un => rw [c, hT0] at ht; cases ht
        | _ => rfl
      refine ⟨R2.tyIs hT hv hu ht, B, F1, e1, ts, vs, R2, (ResP.bind q1).mono (fun us e2 q2 ws H2 F2 hl na R3 => ?_) fun _ _ _ _ z => z⟩
      cases hf : f (e2.getD i .un) us with
      | none => rw [hf] at q2; exact q2.elim
      | some pr =>
        obtain ⟨d', res⟩ := pr
        rw [hf] at q2
        dsimp only at q2
        by_cases hu2 : isUn (e2.getD i .un) = true
        · rw [if_pos hu2] at q2; exact q2.elim
        · rw [if_neg hu2] at q2
          exact hr B σ H2 F2 e2 ts us vs ws i v d' res Q R3 hl na (by simpa using hu2) hv hf fun v' H' R4 => q2 v' H' F2 R4
    · rw [if_neg ht] at q1; exact q1.elim
  | _ => exact q1.elim
theorem ge_meth (hT : TyOK X.K X.mg T isT) (hT0 : isT .un = false) (hr : MtS X.K X.mg r f) (pa : PlainAttrs T) (slot : Slot T name id) (hty : typeOf (.builtin id) = pure (.type "method_descriptor")) (hm : MtR X id r) (ho : GE X W o da) (ha : GAU X W (e :: es) dr)
    (hbase : attributeBase o name X.env (eval o X.env) = eval o X.env := by rfl)
    (hfew : ((backTo cpos (starEach (e :: es) X.env)).all (fun x => !x.1) && (backToKw cpos (keywordEach [] X.env)).all (fun x => x.1.isSome)
      && decide ((e :: es).length + ([] : List Keyword).length + (if ([] : List Keyword).isEmpty then 0 else 1) < 30)) = true := by rfl)
    (hline : (apos.endLine == cpos.line) = true := by rfl) (hs : starEach (e :: es) X.env = (false, eval e X.env) :: starEach es X.env := by rfl) (hplain : (backTo cpos (starEach es X.env)).any (·.1) = false := by rfl) :
    GE X W (.Call (.Attribute o name apos) (e :: es) [] cpos) (dMeth isT f da dr) :=
  PE.imp (pe_bm pa slot hty hm ho ha hbase hfew hline hs hplain) fun σ H Q h => meth_imp hT hT0 hr h
theorem ge_meth0 (hT : TyOK X.K X.mg T isT) (hT0 : isT .un = false) (hr : MtS X.K X.mg r f) (pa : PlainAttrs T) (slot : Slot T name id) (hty : typeOf (.builtin id) = pure (.type "method_descriptor")) (hm : MtR X id r) (ho : GE X W o da)
    (hbase : attributeBase o name X.env (eval o X.env) = eval o X.env := by rfl) (hline : (apos.endLine == cpos.line) = true := by rfl) :
    GE X W (.Call (.Attribute o name apos) [] [] cpos) (dMeth isT f da dNil) :=
  PE.imp (pe_bm0 pa slot hty hm ho hbase hline) fun σ H Q h => by
    have h' := meth_imp hT hT0 hr h
    obtain ⟨B, F, env, ts, vs, R, q⟩ := h'
    refine ⟨B, F, env, ts, vs, R, q.mono (fun x e1 q1 v H1 F1 R1 => ?_) fun _ _ _ _ z => z⟩
    obtain ⟨ty, B2, F2, e2, t2, v2, R2, q2⟩ := q1 v H1 F1 R1
    exact ⟨ty, q2 [] H1 F2 rfl (fun d hd => absurd hd List.not_mem_nil) (by rw [List.append_nil, List.append_nil]; exact R2)⟩
end
section
variable {K : PySem.W.Frag} {mg : Str → Option Value} {B : Bd} {σ : St} {F F' H H' : Hp} {env ts us : List D} {vs ws : List V} {d : D} {v : V} {ow : Own → List Addr}
/-- the slot's list, if it is one -/
theorem getD_lst {i : Nat} {xs : List D} {o : Bool} (h : env.getD i .un = .lst o xs) : env[i]? = some (.lst o xs) := by
  rw [List.getD_eq_getElem?_getD] at h
  cases e : env[i]? with
  | none => rw [e] at h; cases h
  | some d => rw [e] at h; exact congrArg some h
theorem RpL.two_inv {x y : D} {ws : List V} {S : List Addr} (h : RpL K mg F H [x, y] ws S) : ∃ u w S1 S2, ws = [u, w] ∧ S = S1 ++ S2 ∧ Rp K mg F H x u S1 ∧ Rp K mg F H y w S2 := by
  unfold RpL at h
  obtain ⟨v, r, S1, S2, rfl, rfl, h1, h2⟩ := h
  obtain ⟨w, rfl, h3⟩ := h2.one_inv
  exact ⟨v, w, S1, S2, rfl, rfl, h1, h3⟩
def mAppend : D → List D → Option (D × D)
  | .lst true xs, [u] => if xs.length < sizeLine then some (.lst true (xs ++ [u]), .non) else none
  | _, _ => none
theorem ms_append : MtS K mg rAppend mAppend := by
  intro B σ H F env ts us vs ws i p d' res Q R hl na hu hp e k
  cases hd : env.getD i .un with
  | lst o xs =>
    rw [hd] at e
    cases o with
    | false => cases e
    | true =>
      match us, e with
      | [u], e =>
        unfold mAppend at e
        dsimp only at e
        by_cases hz : xs.length < sizeLine
        · rw [if_pos hz] at e
          cases e
          obtain ⟨a, zs, S0, S1, rfl, ha, hzs, hw, go⟩ := R.lmut hl na (getD_lst hd) hp
          obtain ⟨w, rfl, ru⟩ := hw.one_inv
          exact ⟨a, zs, w, rfl, rfl, ha, by rw [← hzs.len]; exact hz, k _ _ (go (xs ++ [u]) (zs ++ [w]) [.non] [.non] (S0 ++ S1) [] (hzs.append (RpL.one ru)) (RpL.one rp_non) fun b => by simp)⟩
        · rw [if_neg hz] at e; cases e
  | _ => rw [hd] at e; cases e
def mPop : D → List D → Option (D × D)
  | .lst true xs, [] => (xs[xs.length - 1]?).map fun y => (.lst true (xs.eraseIdx (xs.length - 1)), y)
  | _, _ => none
theorem ms_pop : MtS K mg rPop mPop := by
  intro B σ H F env ts us vs ws i p d' res Q R hl na hu hp e k
  cases hd : env.getD i .un with
  | lst o xs =>
    rw [hd] at e
    cases o with
    | false => cases e
    | true =>
      match us, e with
      | [], e =>
        unfold mPop at e
        dsimp only at e
        obtain ⟨y, hy, ee⟩ := Option.map_eq_some_iff.mp e
        cases ee
        obtain ⟨a, zs, S0, S1, rfl, ha, hzs, hw, go⟩ := R.lmut hl na (getD_lst hd) hp
        unfold RpL at hw
        obtain ⟨rfl, rfl⟩ := hw
        obtain ⟨w, v1, v2, T1, T2, T3, rfl, hl1, rfl, q1, q2, q3⟩ := hzs.at hy
        have le := hzs.len
        refine ⟨a, _, w, rfl, rfl, ha, by rw [← le]; exact get_mid hl1, ?_⟩
        have ed : (v1 ++ w :: v2).dropLast = v1 ++ v2 := by
          rw [← List.eraseIdx_length_sub_one, ← le, erase_mid hl1]
        rw [ed]
        exact k _ _ (go (xs.eraseIdx (xs.length - 1)) (v1 ++ v2) [res] [w] (T1 ++ T3) T2 (by rw [erase_split]; exact q1.append q3) (RpL.one q2) fun b => by simp only [List.count_append, List.count_nil]; omega)
      | _ :: _, e => cases e
  | _ => rw [hd] at e; cases e
def mPopAt : D → List D → Option (D × D)
  | .lst true xs, [.int j] => (ixN xs.length j).bind fun n => (xs[n]?).bind fun y => if decide (xs.length < 2 ^ 63) then some (.lst true (xs.eraseIdx n), y) else none
  | _, _ => none
theorem ms_popAt : MtS K mg rPopAt mPopAt := by
  intro B σ H F env ts us vs ws i p d' res Q R hl na hu hp e k
  cases hd : env.getD i .un with
  | lst o xs =>
    rw [hd] at e
    cases o with
    | false => cases e
    | true =>
      match us, e with
      | [.int j], e =>
        unfold mPopAt at e
        dsimp only at e
        obtain ⟨n, hn, e⟩ := Option.bind_eq_some_iff.mp e
        obtain ⟨y, hy, e⟩ := Option.bind_eq_some_iff.mp e
        by_cases hz : xs.length < 2 ^ 63
        · rw [if_pos (decide_eq_true hz)] at e
          cases e
          obtain ⟨a, zs, S0, S1, rfl, ha, hzs, hw, go⟩ := R.lmut hl na (getD_lst hd) hp
          obtain ⟨w0, rfl, rw0⟩ := hw.one_inv
          unfold Rp at rw0
          obtain ⟨rfl, rfl⟩ := rw0
          obtain ⟨w, v1, v2, T1, T2, T3, rfl, hl1, rfl, q1, q2, q3⟩ := hzs.at hy
          have le := hzs.len
          obtain ⟨h1, h2, h3, h4⟩ := ixN_seq hn
          refine ⟨a, _, j, n, w, rfl, rfl, ha, by omega, by omega, by rw [← le]; exact h1, get_mid hl1, ?_⟩
          rw [erase_mid hl1]
          exact k _ _ (go (xs.eraseIdx n) (v1 ++ v2) [res] [w] (T1 ++ T3) T2 (by rw [erase_split]; exact q1.append q3) (RpL.one q2) fun b => by simp only [List.count_append, List.count_nil]; omega)
        · rw [if_neg fun z => hz (of_decide_eq_true z)] at e; cases e
  | _ => rw [hd] at e; cases e
def mClear : D → List D → Option (D × D)
  | .lst true _, [] => some (.lst true [], .non)
  | _, _ => none
theorem ms_clear : MtS K mg rClear mClear := by
  intro B σ H F env ts us vs ws i p d' res Q R hl na hu hp e k
  cases hd : env.getD i .un with
  | lst o xs =>
    rw [hd] at e
    cases o with
    | false => cases e
    | true =>
      match us, e with
      | [], e =>
        cases e
        obtain ⟨a, zs, S0, S1, rfl, ha, hzs, hw, go⟩ := R.lmut hl na (getD_lst hd) hp
        unfold RpL at hw
        obtain ⟨rfl, rfl⟩ := hw
        exact ⟨a, _, rfl, rfl, ha, k _ _ (go [] [] [.non] [.non] [] [] RpL.nil (RpL.one rp_non) fun b => by simp)⟩
      | _ :: _, e => cases e
  | _ => rw [hd] at e; cases e
def mInsert : D → List D → Option (D × D)
  | .lst true xs, [.int j, u] => if decide (xs.length < sizeLine) && decide (0 ≤ j ∧ j < 2 ^ 63) then some (.lst true (xs.take j.toNat ++ ([u] ++ xs.drop j.toNat)), .non) else none
  | _, _ => none
theorem ms_insert : MtS K mg (fun x vs H Q => ∃ (l : Addr) (xs : List V) (i : Int) (y : V), x = .ref l ∧ vs = [.int i, y] ∧ H l = some (.lst xs) ∧ xs.length < sizeLine ∧ 0 ≤ i ∧ i < 2 ^ 63 ∧
    Q .non (upd H l (.lst (xs.take i.toNat ++ [y] ++ xs.drop i.toNat)))) mInsert := by
  intro B σ H F env ts us vs ws i p d' res Q R hl na hu hp e k
  cases hd : env.getD i .un with
  | lst o xs =>
    rw [hd] at e
    cases o with
    | false => cases e
    | true =>
      match us, e with
      | [.int j, u], e =>
        unfold mInsert at e
        dsimp only at e
        by_cases hz : (decide (xs.length < sizeLine) && decide (0 ≤ j ∧ j < 2 ^ 63)) = true
        · rw [if_pos hz] at e
          rw [Bool.and_eq_true, decide_eq_true_eq, decide_eq_true_eq] at hz
          cases e
          obtain ⟨a, zs, S0, S1, rfl, ha, hzs, hw, go⟩ := R.lmut hl na (getD_lst hd) hp
          obtain ⟨w0, w1, T0, T1, rfl, rfl, r0, r1⟩ := hw.two_inv
          unfold Rp at r0
          obtain ⟨rfl, rfl⟩ := r0
          have le := hzs.len
          have hs : xs = xs.take j.toNat ++ xs.drop j.toNat := (List.take_append_drop _ _).symm
          rw [hs] at hzs
          obtain ⟨v1, v2, U1, U2, rfl, rfl, q1, q2⟩ := hzs.split
          have l1 := q1.len
          refine ⟨a, _, j, w1, rfl, rfl, ha, by rw [← le]; exact hz.1, hz.2.1, hz.2.2, ?_⟩
          have e1 : (v1 ++ v2).take j.toNat = v1 ∧ (v1 ++ v2).drop j.toNat = v2 := by
            rw [List.length_take] at l1
            rw [List.length_append] at le
            by_cases c : j.toNat ≤ xs.length
            · have : v1.length = j.toNat := by omega
              rw [← this]
              exact ⟨List.take_left' rfl, List.drop_left' rfl⟩
            · have l2 := q2.len
              rw [List.length_drop] at l2
              have : v2 = [] := List.length_eq_zero_iff.mp (by omega)
              subst this
              rw [List.append_nil]
              exact ⟨List.take_of_length_le (by omega), List.drop_of_length_le (by omega)⟩
          rw [e1.1, e1.2, List.append_assoc]
          exact k _ _ (go _ _ [.non] [.non] (U1 ++ (T1 ++ U2)) [] (q1.append (RpL.append (RpL.one r1) q2)) (RpL.one rp_non) fun b => by simp only [List.count_append, List.count_nil]; omega)
        · rw [if_neg hz] at e; cases e
  | _ => rw [hd] at e; cases e
def mExtend : D → List D → Option (D × D)
  | .lst true xs, [.lst o ys] => if decide (xs.length + ys.length ≤ sizeLine) && frozL ys then some (.lst true (xs ++ ys), .non) else none
  | _, _ => none
theorem ms_extend : MtS K mg rExtend mExtend := by
  intro B σ H F env ts us vs ws i p d' res Q R hl na hu hp e k
  have ex := R.ex
  cases hd : env.getD i .un with
  | lst o xs =>
    rw [hd] at e
    cases o with
    | false => cases e
    | true =>
      match us, e with
      | [.lst o ys], e =>
        unfold mExtend at e
        dsimp only at e
        by_cases hz : (decide (xs.length + ys.length ≤ sizeLine) && frozL ys) = true
        · rw [if_pos hz] at e
          rw [Bool.and_eq_true, decide_eq_true_eq] at hz
          cases e
          obtain ⟨a, zs, S0, S1, rfl, ha, hzs, hw, go⟩ := R.lmut hl na (getD_lst hd) hp
          obtain ⟨w, rfl, ru⟩ := hw.one_inv
          obtain ⟨b, us, rfl, hy, hb⟩ := lst_inv0 ru ex hz.2
          exact ⟨a, b, zs, us, rfl, rfl, ha, hb, by rw [← hzs.len, ← hy.len]; exact hz.1, k _ _ (go (xs ++ ys) (zs ++ us) [.non] [.non] (S0 ++ []) [] (hzs.append hy) (RpL.one rp_non) fun b => by simp)⟩
        · rw [if_neg hz] at e; cases e
  | _ => rw [hd] at e; cases e
def rmFirst (k : Int) : List Int → Option Nat
  | [] => none
  | n :: ns => if n = k then some 0 else (rmFirst k ns).map (· + 1)
theorem rmFirst_spec {k : Int} : ∀ {ns : List Int} {j : Nat}, rmFirst k ns = some j → ns[j]? = some k ∧ ∀ m : Nat, m < j → ns[m]? ≠ some k
  | [], j, h => by cases h
  | n :: ns, j, h => by
    unfold rmFirst at h
    by_cases c : n = k
    · rw [if_pos c] at h; cases h; subst c; exact ⟨rfl, fun m hm => absurd hm (Nat.not_lt_zero _)⟩
    · rw [if_neg c] at h
      obtain ⟨m, hm, rfl⟩ := Option.map_eq_some_iff.mp h
      obtain ⟨h1, h2⟩ := rmFirst_spec hm
      refine ⟨by rw [List.getElem?_cons_succ]; exact h1, fun l hl => ?_⟩
      cases l with
      | zero => intro z; cases z; exact c rfl
      | succ l => rw [List.getElem?_cons_succ]; exact h2 l (by omega)
def mRemove : D → List D → Option (D × D)
  | .lst true xs, [.int k] => (asInts xs).bind fun ns => (rmFirst k ns).map fun j => (.lst true ((ns.eraseIdx j).map .int), .non)
  | _, _ => none
theorem ms_remove : MtS K mg rRemI mRemove := by
  intro B σ H F env ts us vs ws i p d' res Q R hl na hu hp e k
  cases hd : env.getD i .un with
  | lst o xs =>
    rw [hd] at e
    cases o with
    | false => cases e
    | true =>
      match us, e with
      | [.int n], e =>
        unfold mRemove at e
        dsimp only at e
        obtain ⟨ns, hns, e⟩ := Option.bind_eq_some_iff.mp e
        obtain ⟨j, hj, ee⟩ := Option.map_eq_some_iff.mp e
        cases ee
        obtain ⟨a, zs, S0, S1, rfl, ha, hzs, hw, go⟩ := R.lmut hl na (getD_lst hd) hp
        obtain ⟨w0, rfl, rw0⟩ := hw.one_inv
        unfold Rp at rw0
        obtain ⟨rfl, rfl⟩ := rw0
        rw [asInts_inv hns] at hzs
        have ez := RpL.ofInts hzs
        subst ez
        obtain ⟨h1, h2⟩ := rmFirst_spec hj
        exact ⟨a, ns, n, j, rfl, rfl, ha, h1, h2, k _ _ (go _ _ [.non] [.non] [] [] (RpL.ints _) (RpL.one rp_non) fun b => by simp)⟩
  | _ => rw [hd] at e; cases e
end
end DL
set_option Elab.async false
set_option linter.all false
set_option maxRecDepth 100000
set_option maxHeartbeats 2000000
/-! DLk: frozen and moved operands, dict displays, a list within a slot's dict. -/
namespace DL
open PySem L2

/-! ### frozen as it is made; moved out of its slot -/
@[simp] def dFz (a : Dn D) : Dn D := a.bind fun d env => .ok (fz d) env
@[simp] def dMv (i : Nat) : Dn D := fun env => if isUn (env.getD i .un) || isSl (env.getD i .un) then .no else .ok (env.getD i .un) (env.set i .un)
section
variable {X : Cx} {W : WX} {e : Expr} {da : Dn D} {pos : Pos}
theorem fz_sl {d : D} (h : ∀ i, d ≠ .sl i) : ∀ i, fz d ≠ .sl i := fun i z => by
  cases d with
  | sl j => exact h j rfl
  | lst o xs => unfold fz at z; cases z
  | tup xs => unfold fz at z; cases z
  | dct o ks xs => unfold fz at z; cases z
  | obj o c ns xs => unfold fz at z; cases z
  | _ => cases z
theorem ge_fz (h : GEU X W e (dU da)) : GEU X W e (dFz (dU da)) := by
  refine PE.imp h fun σ H Q ⟨B, F, env, ts, vs, R, q⟩ => ?_
  refine ⟨B, F, env, ts, vs, R, (ResP.bind q).mono (fun d e1 q1 v H1 F1 hd R1 => ?_) fun _ _ _ _ z => z⟩
  obtain ⟨F2, R2, _⟩ := R1.fzLast hd
  exact q1 v H1 F2 (fz_sl hd) R2
theorem ge_mv (i : Nat) {x : Str} (hN : X.N[i]? = some x := by rfl) (hv : Vis X.env.scope x := by first | exact Or.inl rfl | exact Or.inr (Or.inl rfl) | exact Or.inr (Or.inr rfl)) (hd : (x == ("__debug__" : Str)) = false := by decide)
    (hcd : (x == ("__classdict__" : Str)) = false := by decide) : GEU X W (.Name x pos) (dMv i) := by
  refine PE.imp (pe_var hN hv hd hcd) fun σ H Q ⟨B, F, env, ts, vs, R, h⟩ => ?_
  unfold dMv at h
  by_cases hz : (isUn (env.getD i .un) || isSl (env.getD i .un)) = true
  · rw [if_pos hz] at h; exact h.elim
  · rw [if_neg hz] at h
    rw [Bool.not_eq_true, Bool.or_eq_false_iff] at hz
    obtain ⟨ow, r⟩ := R
    rw [List.getD_eq_getElem?_getD] at hz h
    cases ee : env[i]? with
    | none => rw [ee] at hz; cases hz.1
    | some x =>
      rw [ee, Option.getD_some] at hz h
      obtain ⟨v, ev, rp⟩ := r.slot i x ee (isUn_of hz.1)
      refine ⟨v, ev, h v H F (fun j z => by rw [z] at hz; cases hz.2) ⟨_, (r.unslot i).push (Tm.of rp) (fun a ha => ⟨fun o z => ?_, r.fno _ a ha, fun z => (r.fr a z).2.2.2 _ ha⟩) (r.nod _)⟩⟩
      by_cases qq : o = .s i
      · subst qq; rw [offS_in] at z; exact absurd z List.not_mem_nil
      · rw [offS_ne qq] at z
        exact qq (r.uniq _ _ a z ha)
end

/-! ### {k: v, ..} -/
@[simp] def dPairs : List (Dn D × Dn D) → Dn (List Key × List D)
  | [] => fun env => .ok ([], []) env
  | (k, v) :: r => k.bind fun x env => match asKey (rs env x) with
    | none => .no
    | some ky => (dU v env).bind fun y env => (dPairs r env).bind fun ps env => .ok (ky :: ps.1, y :: ps.2) env
@[simp] def dDisp (ps : List (Dn D × Dn D)) : Dn D := (dPairs ps).bind fun p env => if decide (p.1.Nodup) && decide (p.1.length ≤ 15) then .ok (.dct true p.1 p.2) env else .no
section
variable {K : PySem.W.Frag} {mg : Str → Option Value} {B : Bd} {σ : St} {F F' H H' : Hp} {env ts us : List D} {vs ws : List V} {d : D} {v : V} {ow : Own → List Addr}
theorem mergeK_zip : ∀ {ks : List Key} {vs : List V} {acc : List (Key × V)}, ks.Nodup → (∀ k ∈ ks, valV acc k = none) → mergeK acc (ks.zip vs) = acc ++ ks.zip vs
  | [], vs, acc, _, _ => by rw [List.zip_nil_left]; exact (List.append_nil _).symm
  | k :: ks, [], acc, _, _ => by rw [List.zip_nil_right]; exact (List.append_nil _).symm
  | k :: ks, v :: vs, acc, nd, h => by
    obtain ⟨nk, nd'⟩ := List.nodup_cons.mp nd
    rw [List.zip_cons_cons]
    show mergeK (putK acc k v) (ks.zip vs) = _
    rw [putK_new (h k List.mem_cons_self), mergeK_zip nd' fun j hj => ?_, List.append_assoc]
    · rfl
    · have hh := h j (List.mem_cons_of_mem _ hj)
      have nj : ¬ k = j := fun z => nk (by rw [z]; exact hj)
      have key : ∀ acc : List (Key × V), valV acc j = none → valV (acc ++ [(k, v)]) j = none := by
        intro acc
        induction acc with
        | nil => intro _; rw [List.nil_append, valV_neg nj]; rfl
        | cons p r ih =>
          intro z
          by_cases c : p.1 = j
          · rw [valV_pos c] at z; cases z
          · rw [valV_neg c] at z
            rw [List.cons_append, valV_neg c]
            exact ih z
      exact key acc hh
/-- the dict that was laid empty is filled with the temporaries above it -/
theorem RE.fillT {p : Addr} {ks : List Key} (R : RE K mg B σ H F env (ts ++ .dct true [] [] :: us) (vs ++ .ref p :: ws)) (hl : us.length = ws.length) (hn : noAl us) (hk : ks.length = us.length) :
    H p = some (.dK []) ∧ RE K mg B σ (upd H p (.dK (ks.zip ws))) F env (ts ++ [.dct true ks us]) (vs ++ [.ref p]) := by
  obtain ⟨ow, r⟩ := R
  have e1 : ts ++ .dct true [] [] :: us = (ts ++ [.dct true [] []]) ++ us := by rw [List.append_assoc]; rfl
  have e2 : vs ++ .ref p :: ws = (vs ++ [.ref p]) ++ ws := by rw [List.append_assoc]; rfl
  rw [e1, e2] at r
  obtain ⟨ow1, S1, r1, rp1, nd1, hn1, _, sb1, in1⟩ := r.takes hl hn
  obtain ⟨ow2, S2, r2, rp2, nd2, hn2, _, sb2, in2⟩ := r1.take1 (d := .dct true [] []) fun i z => by cases z
  unfold Rp at rp2
  obtain ⟨a, vs', S', e, hk', hv, ho⟩ := rp2
  cases e
  rw [if_pos rfl] at ho
  obtain ⟨ha, rfl⟩ := ho
  rw [List.zip_nil_left] at ha
  have pin := hn2 p List.mem_cons_self
  have pn : ∀ a ∈ S1, a ≠ p := fun a ha z => by
    subst z
    obtain ⟨o, ho⟩ := in2 a List.mem_cons_self
    exact (hn1 _ (by assumption)).1 o ho
  refine ⟨ha, ?_⟩
  have r3 : REw K mg B σ (upd H p (.dK (ks.zip ws))) F env ts vs ow2 := by
    refine r2.grow (Ex.refl F) (fun o a ha => upd_ne fun z => pin.1 o (by rw [← z]; exact ha)) r2.fno (fun a u hu => ?_) fun a ha => ⟨upd_ne fun z => pin.2.2 (by rw [← z]; exact ha), rfl⟩
    rw [upd_ne fun z => by rw [z, pin.2.1] at hu; cases hu]
    exact r2.ex a u hu
  refine ⟨_, r3.push (d := .dct true ks us) (v := .ref p) (S := p :: S1) (Tm.of ?_) (fun a ha => ?_) (List.nodup_cons.mpr ⟨fun z => pn p z rfl, nd1⟩)⟩
  · unfold Rp
    exact ⟨p, ws, S1, rfl, hk, rp1.stay (Ex.refl F) fun a ha => upd_ne (pn a ha), by rw [if_pos rfl]; exact ⟨upd_same, rfl⟩⟩
  · rcases List.mem_cons.mp ha with z | z
    · rw [z]; exact pin
    · exact ⟨fun o q => (hn1 a z).1 o (sb2 o a q), (hn1 a z).2⟩
end
section
variable {X : Cx} {W : WX} {pos : Pos}
def rdP (K : PySem.W.Frag) (mg : Str → Option Value) (W : WX) (den : Dn (List Key × List D)) : St → Hp → (List (V × V) → Hp → Prop) → Prop := fun σ H Q => ∃ B F env ts vs, RE K mg B σ H F env ts vs ∧
  ResP (den env) (fun p e => ∀ (ws : List V) H' F', p.1.length = p.2.length → p.2.length = ws.length → noAl p.2 → RE K mg B σ H' F' e (ts ++ p.2) (vs ++ ws) → Q ((p.1.zip ws).map fun kv => (kV kv.1, kv.2)) H') (ErrK K mg W B σ ts vs)
theorem pairs_imp : ∀ {ps : List (Dn D × Dn D)} {σ : St} {H : Hp} {Q : List (V × V) → Hp → Prop}, rdP X.K X.mg W (dPairs ps) σ H Q → tPairs (ps.map fun p => (rdE X.K X.mg W p.1, rdEU X.K X.mg W (dU p.2))) σ H Q
  | [], σ, H, Q, ⟨B, F, env, ts, vs, R, q⟩ => q [] H F rfl rfl (fun d hd => absurd hd List.not_mem_nil) (by rw [List.append_nil, List.append_nil]; exact R)
  | (k, v) :: r, σ, H, Q, ⟨B, F, env, ts, vs, R, q⟩ => by
    refine ⟨B, F, env, ts, vs, R, (ResP.bind q).mono (fun x e1 q1 kv H1 F1 R1 => ?_) fun _ _ _ _ z => z⟩
    cases hk : asKey (rs e1 x) with
    | none => rw [hk] at q1; exact q1.elim
    | some ky =>
      rw [hk] at q1
      obtain ⟨S, rk⟩ := R1.last (fun z => by rw [z] at hk; cases hk)
      have ek := asKey_rp rk hk
      subst ek
      refine ⟨B, F1, e1, ts, vs, R1.drop rfl, (ResP.bind q1).mono (fun y e2 q2 w H2 F2 hy R2 => ?_) fun _ _ _ _ z => z⟩
      refine pairs_imp ⟨B, F2, e2, ts ++ [y], vs ++ [w], R2, (ResP.bind q2).mono (fun p e3 q3 ws H3 F3 l1 l2 na R3 => ?_) fun _ _ _ _ z => z.pop rfl⟩
      rw [List.append_assoc, List.append_assoc] at R3
      exact q3 (w :: ws) H3 F3 (by simp [l1]) (by simp [l2]) (fun d hd => (List.mem_cons.mp hd).elim (fun z => by rw [z]; exact hy) fun z => na d z) R3
theorem ge_disp {keys : List (Option Expr)} {values : List Expr} {ps : List (Dn D × Dn D)} (h : PPs X pos keys values (ps.map fun p => (rdE X.K X.mg W p.1, rdEU X.K X.mg W (dU p.2)))) (hall : keys.all (·.isSome) = true := by rfl) (hl : keys.length = values.length := by rfl)
    (h0 : keys ≠ [] := by intro z; cases z) (h15 : keys.length ≤ 15 := by decide) : GE X W (.Dict keys values pos) (dDisp ps) := by
  refine PE.imp (pe_disp h hall hl h0 h15) fun σ H Q ⟨B, F, env, ts, vs, R, q⟩ p hp => ?_
  have R1 := RE.newDct (us := []) (ws := []) (ks := []) (by rw [List.append_nil, List.append_nil]; exact R) rfl rfl (fun d hd => absurd hd List.not_mem_nil) hp
  rw [List.zip_nil_left] at R1
  refine pairs_imp ⟨B, F, env, _, _, R1, (ResP.bind q).mono (fun x e1 q1 ws H1 F1 l1 l2 na R2 => ?_) fun _ _ _ _ z => z.pop rfl⟩
  rw [List.append_assoc, List.append_assoc] at R2
  obtain ⟨e0, R3⟩ := RE.fillT (ks := x.1) R2 l2 na l1
  by_cases hz : (decide (x.1.Nodup) && decide (x.1.length ≤ 15)) = true
  · rw [if_pos hz] at q1
    rw [Bool.and_eq_true, decide_eq_true_eq, decide_eq_true_eq] at hz
    refine ⟨e0, x.1.zip ws, rfl, by rw [List.length_zip]; omega, ?_⟩
    rw [mergeK_zip hz.1 fun k _ => rfl, List.nil_append]
    exact q1 _ _ F1 R3
  · rw [if_neg hz] at q1; exact q1.elim
theorem ge_dnew : GE X W (.Dict [] [] pos) (dC (.dct true [] [])) := PE.imp pe_dnewK fun σ H Q ⟨B, F, env, ts, vs, R, q⟩ p hp => by
  have R1 := RE.newDct (us := []) (ws := []) (ks := []) (by rw [List.append_nil, List.append_nil]; exact R) rfl rfl (fun d hd => absurd hd List.not_mem_nil) hp
  rw [List.zip_nil_left] at R1
  exact q _ _ F R1
end

/-! ### the list d[k] of the slot's dict -/
def subL (d : D) (k : Key) : Option (Nat × List D) := match d with
  | .dct true ks xs => (kIx ks k).bind fun j => match xs[j]? with
    | some (.lst true ys) => some (j, ys)
    | _ => none
  | _ => none
def setSub (d : D) (j : Nat) (u : D) : D := match d with
  | .dct o ks xs => .dct o ks (xs.set j u)
  | d => d
/-- d[k] != [] -/
@[simp] def dNeNil (i : Nat) (k : Key) : Dn Bool := fun env => match (subL (env.getD i .un) k).bind fun p => asInts p.2 with
  | some ns => .ok (!ns.isEmpty) env
  | none => .no
/-- d[k].pop(0) -/
@[simp] def dPop0 (i : Nat) (k : Key) : Dn D := fun env => match subL (env.getD i .un) k with
  | some (j, y :: ys) => if froz y && decide (ys.length < 2 ^ 62) then .ok y (env.set i (setSub (env.getD i .un) j (.lst true ys))) else .no
  | _ => .no
section
variable {K : PySem.W.Frag} {mg : Str → Option Value} {B : Bd} {σ : St} {F F' H H' : Hp} {env ts us : List D} {vs ws : List V} {d : D} {v : V} {ow : Own → List Addr}
theorem subL_inv {k : Key} {j : Nat} {ys : List D} (h : subL d k = some (j, ys)) : ∃ ks xs, d = .dct true ks xs ∧ kIx ks k = some j ∧ xs[j]? = some (.lst true ys) := by
  unfold subL at h
  cases d with
  | dct o ks xs =>
    cases o with
    | false => cases h
    | true =>
      dsimp only at h
      obtain ⟨m, hm, h⟩ := Option.bind_eq_some_iff.mp h
      cases e : xs[m]? with
      | none => rw [e] at h; cases h
      | some x =>
        rw [e] at h
        cases x with
        | lst o zs =>
          cases o with
          | true => cases h; exact ⟨ks, xs, rfl, hm, e⟩
          | false => cases h
        | _ => cases h
  | _ => cases h
/-- what stands there -/
theorem Rp.sub {k : Key} {j : Nat} {ys : List D} {S : List Addr} (h : Rp K mg F H d v S) (e : subL d k = some (j, ys)) :
    ∃ ks xs a vs v1 v2 b zs T1 T2 T3, d = .dct true ks xs ∧ xs[j]? = some (.lst true ys) ∧ ks.length = xs.length ∧ v = .ref a ∧ H a = some (.dK (ks.zip vs)) ∧ vs = v1 ++ .ref b :: v2 ∧ v1.length = j ∧ valV (ks.zip vs) k = some (.ref b) ∧ H b = some (.lst zs) ∧ RpL K mg F H ys zs T2 ∧
      RpL K mg F H (xs.take j) v1 T1 ∧ RpL K mg F H (xs.drop (j + 1)) v2 T3 ∧ S = a :: (T1 ++ ((b :: T2) ++ T3)) := by
  obtain ⟨ks, xs, rfl, hk, hx⟩ := subL_inv e
  unfold Rp at h
  obtain ⟨a, vs, S', rfl, hkl, hl, ho⟩ := h
  rw [if_pos rfl] at ho
  obtain ⟨ha, rfl⟩ := ho
  have le := hl.len
  obtain ⟨w, v1, v2, T1, T2, T3, rfl, hl1, rfl, q1, q2, q3⟩ := hl.at hx
  unfold Rp at q2
  obtain ⟨b, zs, T2', rfl, hz, ho⟩ := q2
  rw [if_pos rfl] at ho
  obtain ⟨hb, rfl⟩ := ho
  exact ⟨ks, xs, a, _, v1, v2, b, zs, T1, T2', T3, rfl, hx, hkl, rfl, ha, rfl, hl1, by rw [valV_kIx (by omega), hk]; exact get_mid hl1, hb, hz, q1, q3, rfl⟩
end
theorem lay_ints : ∀ ns : List Int, PyData.canLayAll0 (ns.map .int) = true
  | [] => by unfold PyData.canLayAll0; rfl
  | n :: ns => by
    rw [List.map_cons]
    unfold PyData.canLayAll0
    rw [lay_ints ns]
    unfold PyData.canLay0
    rfl
theorem depth_ints : ∀ ns : List Int, PyData.depthAll (ns.map .int) = 0
  | [] => by unfold PyData.depthAll; rfl
  | n :: ns => by
    rw [List.map_cons]
    unfold PyData.depthAll
    rw [depth_ints ns]
    unfold PyData.depth
    rfl
theorem shaped_ints (ns : List Int) : SeqAt.shaped (.list (ns.map .int)) = true := by
  unfold SeqAt.shaped PyData.canLay0 PyData.depth
  rw [lay_ints, depth_ints]
  rfl
theorem toPyL_ints : ∀ ns : List Int, toPyL (ns.map .int) = some (ns.map .int)
  | [] => rfl
  | n :: ns => by
    rw [List.map_cons, List.map_cons]
    unfold toPyL
    rw [toPyL_ints ns]
    rfl
section
variable {X : Cx} {W : WX} {pos p1 p2 p3 p4 apos cpos : Pos} {j1 j2 x4 : Nat}
theorem RE.slotD {K : PySem.W.Frag} {mg : Str → Option Value} {B : Bd} {σ : St} {F H : Hp} {env ts : List D} {vs : List V} {i : Nat} {d : D} (R : RE K mg B σ H F env ts vs) (e : env.getD i .un = d) (hu : isUn d = false) : env[i]? = some d ∧ ∃ v S, σ[i]? = some (some v) ∧ Rp K mg F H d v S := by
  rw [List.getD_eq_getElem?_getD] at e
  cases q : env[i]? with
  | none => rw [q] at e; subst e; cases hu
  | some x =>
    rw [q] at e
    cases e
    obtain ⟨ow, r⟩ := R
    obtain ⟨v, ev, rp⟩ := r.slot i x q (isUn_of hu)
    exact ⟨rfl, v, _, ev, rp⟩
theorem ge_pop0 {x k : Str} (i : Nat) (hu : X.A.units + 1 < cLine) (hN : X.N[i]? = some x := by rfl) (hv : Vis X.env.scope x := by first | exact Or.inl rfl | exact Or.inr (Or.inl rfl) | exact Or.inr (Or.inr rfl)) (hd : (x == ("__debug__" : Str)) = false := by decide)
    (hcd : (x == ("__classdict__" : Str)) = false := by decide) (hni : NoSl (.Constant (.str k) j1 p2) := by intro _ _; rfl)
    (hbase : attributeBase (.Subscript (.Name x p1) (.Constant (.str k) j1 p2) p3) "pop" X.env (eval (.Subscript (.Name x p1) (.Constant (.str k) j1 p2) p3) X.env) = eval (.Subscript (.Name x p1) (.Constant (.str k) j1 p2) p3) X.env := by rfl)
    (hfew : ((backTo cpos (starEach ([.Constant (.int 0) j2 p4] : List Expr) X.env)).all (fun x => !x.1) && (backToKw cpos (keywordEach [] X.env)).all (fun x => x.1.isSome)
      && decide (([.Constant (.int 0) j2 p4] : List Expr).length + ([] : List Keyword).length + (if ([] : List Keyword).isEmpty then 0 else 1) < 30)) = true := by rfl)
    (hline : (apos.endLine == cpos.line) = true := by rfl) (hs : starEach ([.Constant (.int 0) j2 p4] : List Expr) X.env = (false, eval (.Constant (.int 0) j2 p4) X.env) :: starEach [] X.env := by rfl) (hplain : (backTo cpos (starEach [] X.env)).any (·.1) = false := by rfl) :
    GE X W (.Call (.Attribute (.Subscript (.Name x p1) (.Constant (.str k) j1 p2) p3) "pop" apos) [.Constant (.int 0) j2 p4] [] cpos) (dPop0 i (.inr k)) := by
  refine PE.imp (pe_bm PySem.F.plainAttrs_list PySem.F.slot_list_pop PySem.F.type_list_pop mt_popAt (pe_dget hu (pe_var hN hv hd hcd) pe_str hni) (pa_cons pe_int pa_nil) hbase hfew hline hs hplain) fun σ H Q ⟨B, F, env, ts, vs, R, q⟩ => ?_
  unfold dPop0 at q
  cases hsub : subL (env.getD i .un) (.inr k) with
  | none => rw [hsub] at q; exact q.elim
  | some pr =>
    obtain ⟨j, zs⟩ := pr
    rw [hsub] at q
    cases zs with
    | nil => exact q.elim
    | cons y ys =>
      dsimp only at q
      by_cases hy : (froz y && decide (ys.length < 2 ^ 62)) = true
      · rw [if_pos hy] at q
        rw [Bool.and_eq_true, decide_eq_true_eq] at hy
        obtain ⟨ks0, xs0, ed, _, _⟩ := subL_inv hsub
        obtain ⟨he, _⟩ := R.slotD ed rfl
        obtain ⟨v, S0, S1, ev, rp0, rp1, nd, go⟩ := RE.mut (us := []) (ws := []) (by rw [List.append_nil, List.append_nil]; exact R) rfl (fun d hd => absurd hd List.not_mem_nil) he rfl
        unfold RpL at rp1
        obtain ⟨_, rfl⟩ := rp1
        rw [← ed] at rp0
        obtain ⟨ks, xs, a, us, v1, v2, b, zs, T1, T2, T3, ed2, hx2, hkl, rfl, ha, rfl, hl1, hval, hb, hz, q1, q3, rfl⟩ := rp0.sub hsub
        rw [ed2] at ed
        cases ed
        have ndc := List.nodup_iff_count.mp nd
        unfold RpL at hz
        obtain ⟨w, r, U1, U2, rfl, rfl, w1, w2⟩ := hz
        have e0 := w1.froz hy.1
        subst e0
        have lr := w2.len
        refine ⟨_, ev, a, .ref b, rfl, (by rw [← hval]; exact DGet.k (k := .inr k) ha), .inl ⟨rfl, _, Or.inl (Or.inl hb)⟩, b, w :: r, 0, 0, w, rfl, rfl, hb, by omega, by omega, ?_, rfl, ?_⟩
        · exact (ixN_seq (n := (w :: r).length) (i := 0) (j := 0) (by unfold ixN; rw [if_pos (by omega), if_pos (by simp)]; rfl)).1
        · have sep : ∀ c, c ∈ T1 ++ (U2 ++ T3) → c ≠ b ∧ c ≠ a := fun c hc => by
            have z := ndc c
            have z2 := List.count_pos_iff.mpr hc
            simp only [List.count_append, List.count_cons, List.count_nil, List.nil_append] at z z2
            refine ⟨fun h => ?_, fun h => ?_⟩
            · subst h; simp at z; omega
            · subst h; simp at z; omega
          have nab : a ≠ b := fun h => by
            have z := ndc a
            subst h
            simp only [List.count_append, List.count_cons, List.count_nil, List.nil_append] at z
            simp at z
          have e9 : (w :: r).eraseIdx 0 = r := rfl
          rw [e9]
          have hj : j < xs0.length := (List.getElem?_eq_some_iff.mp hx2).1
          refine q _ _ F (go b (.lst r) _ [y] [w] (a :: (T1 ++ ((b :: U2) ++ T3))) [] ?_ ?_ ?_ ?_ ?_)
          · simp
          · rw [ed2]
            unfold setSub Rp
            refine ⟨a, v1 ++ .ref b :: v2, T1 ++ ((b :: U2) ++ T3), rfl, by simp [hkl], ?_, ?_⟩
            · rw [set_split hj]
              refine (q1.stay (Ex.refl F) fun c hc => upd_ne (sep c (List.mem_append_left _ hc)).1).append (RpL.cons ?_ (q3.stay (Ex.refl F) fun c hc => upd_ne (sep c (List.mem_append_right _ (List.mem_append_right _ hc))).1))
              unfold Rp
              exact ⟨b, r, U2, rfl, w2.stay (Ex.refl F) fun c hc => upd_ne (sep c (List.mem_append_right _ (List.mem_append_left _ hc))).1, by rw [if_pos rfl]; exact ⟨upd_same, rfl⟩⟩
            · rw [if_pos rfl]
              exact ⟨(upd_ne nab).trans ha, rfl⟩
          · exact RpL.one (w1.stay (Ex.refl F) fun c hc => absurd hc List.not_mem_nil)
          · rw [List.append_nil]
            rw [List.nil_append, List.append_nil] at nd
            exact nd
          · intro c hc
            rw [List.append_nil] at hc
            rw [List.append_nil, List.nil_append]
            exact hc
      · rw [if_neg hy] at q; exact q.elim
theorem gt_neNil {x k : Str} (i : Nat) (hu : X.A.units + 64 < cLine) (hN : X.N[i]? = some x := by rfl) (hv : Vis X.env.scope x := by first | exact Or.inl rfl | exact Or.inr (Or.inl rfl) | exact Or.inr (Or.inr rfl)) (hd : (x == ("__debug__" : Str)) = false := by decide)
    (hcd : (x == ("__classdict__" : Str)) = false := by decide) (hni : NoSl (.Constant (.str k) j1 p2) := by intro _ _; rfl) :
    GT X W (.Compare (.Subscript (.Name x p1) (.Constant (.str k) j1 p2) p3) [.NotEq] [.List [] p4] pos) (dNeNil i (.inr k)) := by
  refine PT.imp (pt_cmpR (op_neD (by omega)) (pe_dget (by omega) (pe_var hN hv hd hcd) pe_str hni) (pe_lst pa_nil) (nomark _)) fun σ H Q ⟨B, F, env, ts, vs, R, q⟩ => ?_
  unfold dNeNil at q
  cases hsub : (subL (env.getD i .un) (.inr k)).bind fun p => asInts p.2 with
  | none => rw [hsub] at q; exact q.elim
  | some ns =>
    rw [hsub] at q
    obtain ⟨pr, h1, h2⟩ := Option.bind_eq_some_iff.mp hsub
    obtain ⟨j, ys⟩ := pr
    obtain ⟨ks0, xs0, ed, _, _⟩ := subL_inv h1
    have ex := R.ex
    obtain ⟨he, v, S, ev, rp⟩ := R.slotD ed rfl
    rw [← ed] at rp
    obtain ⟨ks, xs, a, us, v1, v2, b, zs, T1, T2, T3, ed2, hx2, hkl, rfl, ha, rfl, hl1, hval, hb, hz, q1, q3, rfl⟩ := rp.sub h1
    have eys := asInts_inv h2
    dsimp only at eys
    subst eys
    have ezs := RpL.ofInts hz
    subst ezs
    refine ⟨_, ev, a, .ref b, rfl, (by rw [← hval]; exact DGet.k (k := .inr k) ha), Nat.zero_le _, fun l hl => ?_⟩
    have lb : l ≠ b := fun z => by rw [z, hb] at hl; cases hl
    have lh : ∀ {c u}, H c = some u → upd H l (.lst []) c = some u := fun {c u} hc => by rw [upd_ne (ne_of_none hc hl)]; exact hc
    have R2 := R.newLst0 (xs := []) (ws := []) RpL.nil hl
    have r1 : Rp X.K X.mg F (upd H l (.lst [])) (.lst true (ns.map .int)) (.ref b) [b] := by
      unfold Rp
      exact ⟨b, _, [], rfl, RpL.ints ns, by rw [if_pos rfl]; exact ⟨lh hb, rfl⟩⟩
    have r2 : Rp X.K X.mg F (upd H l (.lst [])) (.lst true []) (.ref l) [l] := by
      unfold Rp
      exact ⟨l, _, [], rfl, RpL.nil, by rw [if_pos rfl]; exact ⟨upd_same, rfl⟩⟩
    have t1 : toPy (.lst true (ns.map .int)) = some (.list (ns.map .int)) := by
      unfold toPy
      rw [toPyL_ints]
      rfl
    refine os_ne B σ (upd H l (.lst [])) F env ts vs (.lst true (ns.map .int)) (.lst true []) (.ref b) (.ref l) _ _ (.bl (!ns.isEmpty)) _ (R2.drop rfl) r1 r2 ?_ fun v' H' F' R' => ?_
    · unfold fNe eqP
      have t2 : toPy (.lst true []) = some (.list (([] : List Int).map .int)) := rfl
      rw [t1, t2]
      show Option.map (fun b => D.bl !b) (if (SeqAt.shaped _ && SeqAt.shaped _) = true then some (PyData.eqv _ _) else none) = _
      rw [shaped_ints, shaped_ints]
      cases ns with
      | nil => rfl
      | cons n ns => rfl
    · exact ⟨_, R'.bool (b := !ns.isEmpty) rfl, q H' F' (R'.drop rfl)⟩
end
end DL
set_option Elab.async false
set_option linter.all false
set_option maxRecDepth 100000
set_option maxHeartbeats 4000000
/-! DLm: exceptions raised and caught; isinstance; repr. -/
namespace DL
open PySem L2
open PyProof.Rows (AllBare)

/-! ### raise -/
@[simp] def nRaise (c : Str) : Sn := fun env => .er c [] [] env
section
variable {X : Cx} {W : WX} {P : List Nat}
theorem gs_raise {C : Addr} {bmB : List Value} {Bc newId initId : String} {x m : Str} {j : Nat} {p p2 pos pos2 : Pos} (hc : X.calm = true) (tk : Takes X W) (Fx : ExcBaseFacts Bc newId initId bmB) (q : PySem.W.excIn X.K C bmB newId = true) (gC : X.mg x = some (.ref C)) (kC : PySem.W.keepIn X.K (.ref C) = true)
    (h1 : PySem.W.subIn X.K (.ref C) (.type "BaseException") = some true) (h2 : PySem.W.typeIn X.K (.ref C) = some (.type "type")) (hg : Gl X x := by rfl) (hdb : (x == ("__debug__" : Str)) = false := by decide) :
    GS X W P (.Raise (some (.Call (.Name x p) [.Constant (.str m) j p2] [] pos)) none pos2) (nRaise x) := by
  refine PS.imp (ps_raise hc tk (pmk_own Fx q gC kC (raises_own h1 h2) hg hdb)) fun T σ H ⟨B, F, env, ts, vs, hpp, na, R, q⟩ => ?_
  exact q (.ref C) none σ H F R ⟨C, gC, rfl, .inl ⟨rfl, rfl, rfl⟩⟩
end

/-! ### try: .. except x as n: .. ; what is caught stays known -/
section
variable {X : Cx} {pins : List (Addr × Obj)} {σ : L2.St} {H : Hp} {s sI s' : Shared} {B : Heap} {a : Addr} {cls : Value} {d : Option Addr}
theorem excHO_ok {P : Program} {w : World} {H : Hp} {h : Heap} {oe : Obj} {vs : Array Value} (e : h.get? a = some oe) (z : Zc cls d oe) (hd : oe.data = .fields vs) : ObjOk P w H h a (excHO a cls d) :=
  ⟨⟨oe, vs, e, z, hd⟩, ⟨oe, e⟩, fun h1 h2 ⟨o1, v1, e1, z1, d1⟩ k => ⟨o1, v1, k _ e1, z1, d1⟩⟩
theorem hok_more {P : Program} {w : World} {H : Hp} {h : Heap} {o : HO} (hok : HOk P w H h) (na : H a = none) (new : ObjOk P w (upd H a o) h a o) : HOk P w (upd H a o) h := fun b u hb => by
  by_cases e : b = a
  · subst e
    rw [upd_same] at hb
    cases hb
    exact new
  · rw [upd_ne e] at hb
    have other : ∀ {c : Addr} {y : HO}, H c = some y → upd H a o c = some y := fun {c y} hc => (upd_ne (ne_of_none hc na)).trans hc
    exact (hok b u hb).stay (fun c y _ q => q) (fun c hc => other hc) fun c ys hc => other hc
/-- the exception has landed and is known -/
theorem landedE (I : Inv X pins σ H sI) (nb : ∀ b o, sI.heap.get? b = some o → b ∉ frs X.stack → B.get? b = some o) (st : B.StaysIn s'.heap) (up : sI.heap.UpToSlots s'.heap) (os : s'.os = sI.os) (ag : AllBare s'.gens)
    (na : H a = none) (ni : sI.heap.get? a = none) {oe : Obj} {vs : Array Value} (e : s'.heap.get? a = some oe) (z : Zc cls d oe) (hd : oe.data = .fields vs) : Inv X pins σ (upd H a (excHO a cls d)) s' := by
  have slots : ∀ b ∈ frs X.stack, ∀ o, sI.heap.get? b = some o → ∃ sl, s'.heap.get? b = some { o with slots := sl } := fun b hb o q => by
    obtain ⟨_, o2, q2, hdat⟩ := I.stack.mem hb
    rw [q] at q2
    cases q2
    exact up b o q hdat
  have other : ∀ {c : Addr} {y : HO}, H c = some y → upd H a (excHO a cls d) c = some y := fun {c y} hc => (upd_ne (ne_of_none hc na)).trans hc
  have J := I.call (ch := []) (h' := s'.heap) (g' := s'.gens) (t' := s'.toks) (d' := s'.drawn) (H' := upd H a (excHO a cls d))
    ⟨fun b o q _ hb _ => st b o (nb b o q hb), fun b o q _ hb _ => slots b hb o q, fun b o q n _ => (by
      rw [upd_ne fun w => by rw [w, ni] at q; cases q]
      exact n), fun b o q _ => (by
      by_cases hb : b ∈ frs X.stack
      · obtain ⟨sl, w⟩ := slots b hb o q
        exact ⟨_, w⟩
      · exact ⟨o, st b o (nb b o q hb)⟩), fun _ _ q => other q, fun _ _ _ q => other q, fun b ps q => ⟨#[], by rw [other q]; simp⟩⟩
    (hok_more ((I.inGround nb).kept st) na (excHO_ok e z hd)) ag (fun _ w => nomatch w)
  obtain ⟨y1, y2, y3, y4, y5⟩ := s'
  have ey : y5 = sI.os := os
  subst ey
  exact J
end

/-- what the clause wishes of an exception of the body -/
def wE (K : PySem.W.Frag) (c : Value) (i : Nat) (ts : TS) (Wout : WX) (D : Ends) : WX := fun cls d σ H =>
  ∃ b, PySem.W.exmOne K cls c = some b ∧ (b = true → ∀ a, H a = none → ts ⟨fun σ' H' => D.nx (σ'.set i none) H', D.rt, fun σ' H' => D.bk (σ'.set i none) H', fun σ' H' => D.ct (σ'.set i none) H'⟩ (σ.set i (some (.ref a))) (upd H a (excHO a cls d))) ∧ (b = false → Wout cls d σ H)
section
variable {X : Cx} {x n : Str} {c : Value} {i : Nat} {body suite : List Stmt} {b₀ : Stmt} {np pos pos' : Pos} {tb : WX → TS} {ts : TS} {Wout : WX}
theorem ps_tryE (hs : X.stack = X.env :: X.outer) (hf : X.env.frame = some X.env.locals) (hN : X.N.Nodup) (hi : X.N[i]? = some n) (hln : X.env.kindOf n = some .local) (hc : Names X x c) (tk : Takes X Wout)
    (hb : ∀ (W : WX) (pn : List (Addr × Obj)) (xe : Value → Shared → Prop), Takes (X.tr pn xe) W → PassesOwn (model X.prog X.w) X.A X.env xe → PSs (X.tr pn xe) body (tb W))
    (hsu : ∀ (a : Addr) (pn : List (Addr × Obj)), PSs (X.suite a pn) (b₀ :: suite) ts) :
    PS X (.Try body [.ExceptHandler (some (.Name x np)) (some n) (b₀ :: suite) pos'] [] [] pos) (fun D σ H => tb (wE X.K c i ts Wout D) D σ H) := by
  constructor
  intro pins s σ H D I h
  have okX := I.ok
  have frames : X.A.frames = some (X.env :: X.outer) := by rw [okX.frames, hs]
  refine wpAny_Try_except ?_
  refine wpAny_mono ((hb (wE X.K c i ts Wout D) (X.pn ++ pins) (fun e z₁ => wpAny (model X.prog X.w) X.A (noteFrame e X.env) (fun _ z₂ => wpAny (model X.prog X.w) X.A (setFlight e none) (fun _ z₃ =>
    wpAny (model X.prog X.w) X.A (handleBy e X.env [.ExceptHandler (some (.Name x np)) (some n) (b₀ :: suite) pos']) (SP X pins D) X.xe z₃) X.xe z₂) X.xe z₁) (fun u z xx => ?_) PassesOwn.looking).run [] s σ H D (I.toTry _) h) (fun f z hz => ?_) (fun e z he => he)
  · obtain ⟨a, B, sI, pin2, σ1, H1, cls, d, rfl, J0, nb, up, sky, na, os, ag, b, hb1, yes, no⟩ := xx
    have J : Inv X pins σ1 H1 sI := J0.ofTry okX
    rw [hs] at sky
    show wpAny (model X.prog X.w) X.A (noteFrame (.ref a) X.env) _ _ _
    refine Sky.land Zc.steady frames hf sky fun g1 fl1 up1 => ?_
    have J1 : Inv X pins σ1 H1 { z with heap := g1 } := J.landed nb fl1.1 (up.trans up1) os ag
    obtain ⟨o1, v1, e1, z1, d1⟩ := fl1.there
    have nfr : a ∉ frs (X.env :: X.outer) := fun hm => by
      obtain ⟨_, o2, e2, hdat⟩ := fl1.2.2.1.mem hm
      rw [e1] at e2
      cases e2
      exact hdat _ d1
    have nL : a ≠ X.env.locals := fun w => nfr (List.mem_filterMap.mpr ⟨X.env, List.mem_cons_self, by rw [hf, w]⟩)
    have nF : a ∉ X.fs := fun hm => by
      obtain ⟨ev, hev, q⟩ := List.mem_filterMap.mp hm
      exact nfr (List.mem_filterMap.mpr ⟨ev, List.mem_cons_of_mem _ hev, q⟩)
    have nI : sI.heap.get? a = none := by
      cases q : sI.heap.get? a with
      | none => rfl
      | some o =>
        have w := nb a o q (by rw [hs]; exact nfr)
        rw [fl1.2.1] at w
        cases w
    have S1 := J1.suite e1 d1 na nL nF
    refine wpAny_handleBy_cons (codeAny_handlers_test ?_) (by intro q; cases q)
    have T1 : PySem.W.Looks (model X.prog X.w) g1 (typeOf (.ref a)) cls := fun A2 Q2 E2 s2 k q => wpAny_typeOf_ref (k _ _ e1) (by rw [z1.1]; exact q)
    have M1 := PySem.W.exm_one (M := model X.prog X.w) J1.kIn T1 hb1
    have named : ∀ {Q2 : Value → Shared → Prop} {E2 : Value → Shared → Prop}, Q2 c { z with heap := g1 } → wpAny (model X.prog X.w) (X.A.mark (some (.ref a))) (eval (.Name x np) X.env) Q2 E2 { z with heap := g1 } := fun {Q2 E2} q => by
      obtain ⟨y1, y2, y3 | ⟨y3, y4, y5⟩⟩ := hc
      · exact ld_glob (X := X.suite a ((a, o1) :: (X.pn ++ pins))) S1 y1 y3 q y2
      · exact ld_blt (X := X.suite a ((a, o1) :: (X.pn ++ pins))) S1 y1 y3 y4 q y5 y2
    refine named (M1.here ?_)
    cases b with
    | false =>
      show wpAny _ X.A (handleBy (.ref a) X.env []) _ _ _
      refine wpAny_handleBy_nil ?_
      obtain ⟨_, _, _, o5, v5, tb5, ot5, ts5, e5, z5, d5, h5, _⟩ := id fl1
      unfold PySem.passOn
      refine wpAny_bind (wpAny_field e5 d5 h5 ?_)
      rw [if_neg (show ¬ ((Value.ref tb5 == Value.none) = true) from by simp)]
      have go : wpAny (model X.prog X.w) X.A (setFlight (.ref a) X.env.frame) (fun _ z4 => wpAny (model X.prog X.w) X.A (throw (.ref a) : Sem Flow) (SP X pins D) X.xe z4) X.xe { z with heap := g1 } := by
        rw [hf]
        exact HandSPX.setFlight_upZ fl1 fun g4 held up4 => wpAny_throw (tk _ _ ⟨a, B, sI, pins, σ1, H1, cls, d, rfl, J, nb, (up.trans up1).trans up4, .inr (.inr (by rw [hs]; exact held)), na, os, ag, no rfl⟩)
      first
        | exact wpAny_bind (wpAny_pure (wpAny_bind go))
        | exact wpAny_bind go
    | true =>
      refine codeAny_handlers_suite_as ?_
      refine HandSPX.lands_againZ fl1 fun g4 fl4 up4 => ?_
      obtain ⟨o4, v4, e4, z4, d4⟩ := fl4.there
      have J4 : Inv X pins σ1 (upd H1 a (excHO a cls d)) { z with heap := g4 } := landedE J nb fl4.1 ((up.trans up1).trans up4) os ag na nI e4 z4 d4
      have S4 : Inv (X.suite a (X.pn ++ pins)) [] σ1 (upd H1 a (excHO a cls d)) { z with heap := g4 } :=
        ⟨J4.ok.suite _ _, J4.os, J4.bare, J4.base, J4.loc, J4.cell, J4.free, J4.freeC, fun p hp => J4.pin p (by rw [List.append_nil] at hp; exact hp), J4.hok, J4.len⟩
      refine store_ok (X := X.suite a (X.pn ++ pins)) (v := .ref a) S4 hN hi (.inl hln) rfl (fun s5 S5 => ?_) (.inr hln)
      refine wpAny_mono ((hsu a (X.pn ++ pins)).run [] s5 _ _ _ S5 (yes rfl a na)) (fun f s6 hsp => ?_) (fun _ _ w => False.elim w)
      have back : ∀ {σ6 : L2.St} {H6 : Hp}, Inv (X.suite a (X.pn ++ pins)) [] σ6 H6 s6 → Inv X pins σ6 H6 s6 := fun {σ6 H6} S6 =>
        ⟨okX, S6.os, S6.bare, S6.base, S6.loc, S6.cell, S6.free, S6.freeC, fun p hp => S6.pin p (by rw [List.append_nil]; exact hp), S6.hok, S6.len⟩
      have fin : ∀ {σ6 : L2.St} {H6 : Hp} {Q : Shared → Prop}, Inv (X.suite a (X.pn ++ pins)) [] σ6 H6 s6 → (∀ s7, Inv X pins (σ6.set i none) H6 s7 → Q s7) →
          wpAny (model X.prog X.w) X.A (do bindName X.env n .none; unbindBehindTheSuite X.env n pos') (fun _ s7 => Q s7) X.xe s6 := fun {σ6 H6 Q} S6 hq => gone_ok (back S6) hN hi hln hq
      match f, hsp with
      | .next, ⟨σ6, H6, S6, q6⟩ => exact fin S6 fun s7 J7 => ⟨_, _, J7, q6⟩
      | .brk, ⟨σ6, H6, S6, q6⟩ => exact fin S6 fun s7 J7 => ⟨_, _, J7, q6⟩
      | .cont, ⟨σ6, H6, S6, q6⟩ => exact fin S6 fun s7 J7 => ⟨_, _, J7, q6⟩
      | .ret u, ⟨v6, σ6, H6, S6, r6, q6⟩ => exact fin S6 fun s7 J7 => ⟨_, _, _, J7, r6, q6⟩
  · match f, hz with
    | .next, ⟨σ', H', J', q⟩ => exact wpAny_execs_nil ⟨σ', H', J'.ofTry okX, q⟩
    | .brk, ⟨σ', H', J', q⟩ => exact ⟨σ', H', J'.ofTry okX, q⟩
    | .cont, ⟨σ', H', J', q⟩ => exact ⟨σ', H', J'.ofTry okX, q⟩
    | .ret u, ⟨v, σ', H', J', r, q⟩ => exact ⟨v, σ', H', J'.ofTry okX, r, q⟩
end

@[simp] def goneO (i : Nat) (r : Out) : Out := match r with
  | .nx e => .nx (e.set i .un)
  | .bk e => .bk (e.set i .un)
  | .ct e => .ct (e.set i .un)
  | .rt d e => .rt d e
  | _ => .no
@[simp] def nTry (i : Nat) (tb : List (Str × Bool)) (b c : Sn) : Sn := fun env => match b env with
  | .er cl ns xs e => match tb.lookup cl with
    | some true => goneO i (c (e.set i (.exc cl ns xs)))
    | some false => .er cl ns xs e
    | none => .no
  | r => r
section
variable {K : PySem.W.Frag} {mg : Str → Option Value} {B : Bd} {σ : L2.St} {F F' H H' : Hp} {env ts us : List D} {vs ws : List V} {d : D} {v : V}
theorem RE.forget {i : Nat} (R : RE K mg B σ H F env ts vs) (hp : ∀ p ∈ B.pins, p.1 ≠ i) (na : noAl ts) : RE K mg B (σ.set i none) H F (env.set i .un) ts vs := by
  obtain ⟨ow, r⟩ := R
  refine ⟨_, (r.unslot i).resig (i := i) (x := none) ?_ hp na⟩
  by_cases hi : i < env.length
  · exact .inr (by rw [List.getElem?_set_self hi])
  · exact .inl (by rw [List.getElem?_eq_none]; simpa using hi)
end
section
variable {X : Cx} {x n : Str} {c : Value} {i : Nat} {body suite : List Stmt} {b₀ : Stmt} {np pos pos' : Pos} {Wout : WX} {P : List Nat} {b k : Sn} {tb : List (Str × Bool)}
theorem gs_try (i : Nat) (tb : List (Str × Bool)) (hx : ∀ cl y, tb.lookup cl = some y → ∀ C, X.mg cl = some (.ref C) → PySem.W.exmOne X.K (.ref C) c = some y) (hs : X.stack = X.env :: X.outer) (hf : X.env.frame = some X.env.locals) (hN : X.N.Nodup) (hc : Names X x c) (tk : Takes X Wout)
    (hb : ∀ (W : WX) (pn : List (Addr × Obj)) (xe : Value → Shared → Prop), Takes (X.tr pn xe) W → PassesOwn (model X.prog X.w) X.A X.env xe → GSs (X.tr pn xe) W P body b)
    (hsu : ∀ (a : Addr) (pn : List (Addr × Obj)), GSs (X.suite a pn) WF P (b₀ :: suite) k) (hi : X.N[i]? = some n := by rfl) (hln : X.env.kindOf n = some .local := by rfl) (hp : P.contains i = false := by rfl) :
    GS X Wout P (.Try body [.ExceptHandler (some (.Name x np)) (some n) (b₀ :: suite) pos'] [] [] pos) (nTry i tb b k) := by
  refine PS.imp (ps_tryE (tb := fun W => rdS X.K X.mg W P b) (ts := rdS X.K X.mg WF P k) (Wout := Wout) hs hf hN hi hln hc tk hb hsu) fun T σ H ⟨B, F, env, ts, vs, hpp, na, R, q⟩ => ?_
  refine ⟨B, F, env, ts, vs, hpp, na, R, ?_⟩
  unfold nTry at q
  cases hbe : b env with
  | nx e => rw [hbe] at q; exact q
  | rt d e => rw [hbe] at q; exact q
  | bk e => rw [hbe] at q; exact q
  | ct e => rw [hbe] at q; exact q
  | no => rw [hbe] at q; exact q
  | er cl ns xs e =>
    rw [hbe] at q
    dsimp only at q
    intro cls dx σ1 H1 F1 R1 ee
    obtain ⟨C, hC, rfl, hd⟩ := ee
    cases hl : tb.lookup cl with
    | none => rw [hl] at q; exact q.elim
    | some y =>
      rw [hl] at q
      refine ⟨y, hx cl y hl C hC, fun hy a na1 => ?_, fun hy => ?_⟩
      · subst hy
        dsimp only at q
        obtain ⟨ow, r1⟩ := R1
        have ex0 : Ex F1 (upd F1 a (excHO a (.ref C) dx)) := Ex.new (r1.ex.none na1)
        have R2 : RE X.K X.mg B σ1 (upd H1 a (excHO a (.ref C) dx)) (upd F1 a (excHO a (.ref C) dx)) e ts vs := ⟨ow, r1.newF na1⟩
        have rp : Rp X.K X.mg (upd F1 a (excHO a (.ref C) dx)) (upd H1 a (excHO a (.ref C) dx)) (.exc cl ns xs) (.ref a) [] := by
          unfold Rp
          refine ⟨rfl, a, C, dx, rfl, hC, upd_same, ?_⟩
          rcases hd with hd | ⟨d0, vs0, e1, e2, e3, e4⟩
          · exact .inl hd
          · exact .inr ⟨d0, vs0, e1, ex0 _ _ e2, e3, e4.stay ex0 fun b hb => absurd hb List.not_mem_nil⟩
        have R3 := (R2.push0 (Tm.of rp)).store (i := i) (pin_ne hpp hp) (fun j w => by cases w) na
        refine ⟨B, _, _, ts, vs, hpp, na, R3, ?_⟩
        cases hk : k (e.set i (.exc cl ns xs)) with
        | nx e2 => rw [hk] at q; exact fun σ' H' F' R' => q _ _ _ (R'.forget (pin_ne hpp hp) na)
        | bk e2 => rw [hk] at q; exact fun σ' H' F' R' => q _ _ _ (R'.forget (pin_ne hpp hp) na)
        | ct e2 => rw [hk] at q; exact fun σ' H' F' R' => q _ _ _ (R'.forget (pin_ne hpp hp) na)
        | rt d e2 => rw [hk] at q; exact q
        | er _ _ _ _ => rw [hk] at q; exact q.elim
        | no => rw [hk] at q; exact q.elim
      · subst hy
        exact q (.ref C) dx σ1 H1 F1 R1 ⟨C, hC, rfl, hd⟩
end

/-! ### isinstance -/
def tyD : D → Option String
  | .non => some "NoneType"
  | .bl _ => some "bool"
  | .int _ => some "int"
  | .str _ => some "str"
  | .lst _ _ => some "list"
  | .tup _ => some "tuple"
  | .dct _ _ _ => some "dict"
  | _ => none
theorem tyD_ok {K : PySem.W.Frag} {mg : Str → Option Value} {F H : Hp} {d : D} {v : V} {S : List Addr} {t : String} (h : Rp K mg F H d v S) (ex : Ex F H) (e : tyD d = some t) : TyX K H v (.type t) := by
  cases d with
  | non => cases e; unfold Rp at h; rw [h.1]; exact .base .non
  | bl b => cases e; unfold Rp at h; rw [h.1]; exact .base (.bl b)
  | int i => cases e; unfold Rp at h; rw [h.1]; exact .base (.int i)
  | str x => cases e; unfold Rp at h; rw [h.1]; exact .base (.str x)
  | lst o xs => cases e; obtain ⟨a, vs, S', rfl, _, hs⟩ := lst_inv h ex; exact .base (.lst hs)
  | tup xs =>
    cases e
    unfold Rp at h
    obtain ⟨a, vs, rfl, _, hs⟩ := h
    rcases ex.sqT hs with (hs | ⟨o, hs⟩) | hs
    · exact .base (.tup hs)
    · exact .fTuple hs
    · obtain ⟨o, _, _, h1, h2, _⟩ := hs
      exact .kTuple h1 h2
  | dct o ks xs =>
    cases e
    obtain ⟨a, vs, S', rfl, _, _, hs⟩ := dct_inv h ex
    rcases hs with hs | ⟨o, hs⟩
    · exact .base (.dK hs)
    · exact .fDict hs
  | _ => cases e
/-- built-in types: is every t a T? -/
def kitT (t T : String) : Option Bool := if t = T then some true else if t ∈ ["NoneType", "bool", "int", "str", "list", "tuple", "dict"] ∧ T ∈ ["bool", "int", "str", "list", "tuple", "dict"] then some (decide (t = "bool" ∧ T = "int")) else none
theorem kitT_ok {t T : String} {b : Bool} (h : kitT t T = some b) : kitB t T = some b := by
  unfold kitT at h
  by_cases c : t = T
  · rw [if_pos c] at h
    cases h
    subst c
    unfold kitB
    rw [if_pos (beq_self_eq_true _)]
  · rw [if_neg c] at h
    by_cases c2 : t ∈ ["NoneType", "bool", "int", "str", "list", "tuple", "dict"] ∧ T ∈ ["bool", "int", "str", "list", "tuple", "dict"]
    · rw [if_pos c2] at h
      obtain ⟨m1, m2⟩ := c2
      have e := Option.some.inj h
      subst e
      have all : (["NoneType", "bool", "int", "str", "list", "tuple", "dict"].all fun t => ["bool", "int", "str", "list", "tuple", "dict"].all fun T => decide (t = T) || decide (kitB t T = some (decide (t = "bool" ∧ T = "int")))) = true := by decide +kernel
      have z := List.all_eq_true.mp (List.all_eq_true.mp all t m1) T m2
      rw [Bool.or_eq_true, decide_eq_true_eq, decide_eq_true_eq] at z
      exact z.resolve_left c
    · rw [if_neg c2] at h; cases h
@[simp] def fIsi (T : String) (d : D) : Option D := (tyD d).bind fun t => (kitT t T).map .bl
section
variable {X : Cx} {W : WX} {e : Expr} {da : Dn D} {p p2 pos : Pos}
theorem ge_isi {y : Str} {T : String} (he : GE X W e da) (hm : X.mg "isinstance" = none) (hy : X.mg y = none) (hv : bootBuiltins y = some (.type T) := by rfl) (hg : Gl X "isinstance" := by rfl) (hgy : Gl X y := by rfl) (hyn : y ≠ "__name__" := by decide) (hyd : (y == ("__debug__" : Str)) = false := by decide)
    (hs : starEach [e, .Name y p2] X.env = (false, eval e X.env) :: starEach [.Name y p2] X.env := by rfl) (hs2 : starEach [.Name y p2] X.env = (false, eval (.Name y p2) X.env) :: starEach [] X.env := by rfl) (hpl : (backTo pos (starEach [.Name y p2] X.env)).any (·.1) = false := by rfl) :
    GE X W (.Call (.Name "isinstance" p) [e, .Name y p2] [] pos) (dUn (fIsi T) da) := by
  refine PE.imp (pe_callB call_isi hg hm (by rfl) (pa_cons he (pa_cons (pe_bltn (v := .ty T) hgy hy hv rfl hyn hyd) pa_nil hs2) hs) (by decide) (by decide) hs hpl) fun σ H Q ⟨B, F, env, ts, vs, R, q⟩ => ?_
  refine ⟨B, F, env, ts, vs, R, (ResP.bind q).mono (fun x e1 q1 v H1 F1 R1 => ?_) fun _ _ _ _ z => z⟩
  obtain ⟨d, ed, k⟩ := q1.lift
  unfold fIsi at ed
  obtain ⟨t, e1, ed⟩ := Option.bind_eq_some_iff.mp ed
  obtain ⟨b, e2, rfl⟩ := Option.map_eq_some_iff.mp ed
  obtain ⟨S, rx⟩ := R1.last (fun z => by rw [z] at e1; cases e1)
  exact ⟨v, .ty T, .type t, .type T, b, rfl, .ty T, tyD_ok rx R1.ex e1, kit_ty (kitT_ok e2), k _ _ _ ((R1.drop rfl).push0 (Tm.of rp_bl))⟩
/-- an exception's or an instance's class, or a plain value's type, by a table -/
structure ExcK (K : PySem.W.Frag) (D : Addr) : Prop where
  cl : (PySem.W.clsIn K D).isSome = true
  ga : PySem.W.findIn K (.ref D) "__getattribute__" = some (some (.builtin "BaseException.__getattribute__"))
  gt : PySem.W.findIn K (.ref D) "__getattr__" = some none
  su : PySem.W.subIn K (.ref D) (.type "BaseException") = some true
  ca : PySem.W.findIn K (.ref D) "__class__" = some (some (.builtin "object.__class__"))
  nd : PySem.W.specialIn K (.builtin "object.__class__") "__get__" = some (some (.builtin "getset_descriptor.__get__"))
  tk : PySem.W.takesIn K (.builtin "object.__class__") = some true
  mr : PySem.W.mroIn K D (.type "object") = some true
def fIsE (tb : List (Str × Bool)) (tt : List String) : D → Option D
  | .exc c _ _ => (tb.lookup c).map .bl
  | d => (tyD d).bind fun t => if t ∈ tt then some (.bl false) else none
def rIsiE (K : PySem.W.Frag) (u : Value) : List V → Hp → VK → Prop := fun xs H Q => ∃ (x c : V) (b : Bool), xs = [x, c] ∧ ClsV c u ∧
  ((∃ t, TyX K H x t ∧ PySem.W.kitOne K t u = some b) ∨ ∃ a D dx, x = .ref a ∧ H a = some (excHO a (.ref D) dx) ∧ (∀ d, dx = some d → ∃ fs, H d = some (.xd fs)) ∧ ExcK K D ∧ PySem.W.kitOne K (.ref D) u = some b) ∧ Q (.bl b) H
theorem call_isiE {X : Cx} (u : Value) : CallR X (.builtin "isinstance") (rIsiE X.K u) := by
  intro pins s σ H xs us Q I r h
  obtain ⟨x, c, b, rfl, k, hx, q⟩ := h
  obtain ⟨u1, u2, rfl, r1, r2⟩ := vals2 r
  have e2 := k.eq r2
  subst e2
  rcases hx with ⟨t, ty, e⟩ | ⟨a, D, dx, rfl, ha, hd, ek, e⟩
  · obtain ⟨P, Z, p, hx⟩ := kit_of I r1 ty
    exact PySem.W.kia_one Z I.kIn p e hx fun tk => ⟨.bl b, H, I.tok tk, rfl, q⟩
  · cases (show u1 = Value.ref a from r1)
    obtain ⟨⟨oe, vs, he, hz, hdat⟩, _, _⟩ := (show ObjOk X.prog X.w H s.heap a (excHO a (.ref D) dx) from I.hok a _ ha)
    have nC : PySem.W.notCls oe := by unfold PySem.W.notCls; rw [hdat]
    obtain ⟨od, J⟩ : ∃ od, PySem.W.InstAt s.heap a oe D od := by
      cases dx with
      | none => exact ⟨none, he, hz.1, nC, by rw [hz.2]; trivial⟩
      | some d =>
        obtain ⟨fs, hf⟩ := hd d rfl
        obtain ⟨mA, ⟨o2, es, ep, e2, _⟩, _⟩ := (show ObjOk X.prog X.w H s.heap d (.xd fs) from I.hok d _ hf)
        exact ⟨some o2, he, hz.1, nC, by rw [hz.2]; exact e2⟩
    exact PySem.W.kia_one (PySem.W.kitx_exc ek.cl ek.ga ek.gt ek.su ek.ca ek.nd ek.tk ek.mr) I.kIn J e (fun z => nomatch z) fun tk => ⟨.bl b, H, I.tok tk, rfl, q⟩
theorem ge_isiE {y : Str} {Cy : Addr} {tb : List (Str × Bool)} {tt : List String} (he : GE X W e da) (hm : X.mg "isinstance" = none) (hy : X.mg y = some (.ref Cy)) (hx : ∀ c b, tb.lookup c = some b → ∀ D, X.mg c = some (.ref D) → ExcK X.K D ∧ PySem.W.kitOne X.K (.ref D) (.ref Cy) = some b)
    (ht : ∀ t, t ∈ tt → PySem.W.kitOne X.K (.type t) (.ref Cy) = some false) (hg : Gl X "isinstance" := by rfl) (hgy : Gl X y := by rfl) (hyd : (y == ("__debug__" : Str)) = false := by decide)
    (hs : starEach [e, .Name y p2] X.env = (false, eval e X.env) :: starEach [.Name y p2] X.env := by rfl) (hs2 : starEach [.Name y p2] X.env = (false, eval (.Name y p2) X.env) :: starEach [] X.env := by rfl) (hpl : (backTo pos (starEach [.Name y p2] X.env)).any (·.1) = false := by rfl) :
    GE X W (.Call (.Name "isinstance" p) [e, .Name y p2] [] pos) (dUn (fIsE tb tt) da) := by
  refine PE.imp (pe_callB (call_isiE (.ref Cy)) hg hm (by rfl) (pa_cons he (pa_cons (pe_glob (v := .ref Cy) hgy hy rfl hyd) pa_nil hs2) hs) (by decide) (by decide) hs hpl) fun σ H Q ⟨B, F, env, ts, vs, R, q⟩ => ?_
  refine ⟨B, F, env, ts, vs, R, (ResP.bind q).mono (fun x e1 q1 v H1 F1 R1 => ?_) fun _ _ _ _ z => z⟩
  obtain ⟨d, ed, k⟩ := q1.lift
  obtain ⟨S, rx⟩ := R1.last (fun z => by rw [z] at ed; cases ed)
  have ex := R1.ex
  have fin : ∀ {b : Bool}, d = .bl b → ((∃ t, TyX X.K H1 v t ∧ PySem.W.kitOne X.K t (.ref Cy) = some b) ∨ ∃ a D dx, v = .ref a ∧ H1 a = some (excHO a (.ref D) dx) ∧ (∀ d, dx = some d → ∃ fs, H1 d = some (.xd fs)) ∧ ExcK X.K D ∧ PySem.W.kitOne X.K (.ref D) (.ref Cy) = some b) →
      rIsiE X.K (.ref Cy) [v, .ref Cy] H1 Q := fun {b} eb hh => ⟨v, .ref Cy, b, rfl, .own Cy, hh, by rw [eb] at k; exact k _ _ _ ((R1.drop rfl).push0 (Tm.of rp_bl))⟩
  have plain : ∀ {dd : D} {t : String}, rs e1 x = dd → tyD dd = some t → t ∈ tt → d = .bl false → rIsiE X.K (.ref Cy) [v, .ref Cy] H1 Q := fun {dd t} e0 e2 m eb => by
    rw [e0] at rx
    exact fin eb (.inl ⟨_, tyD_ok rx ex e2, ht t m⟩)
  cases hr : rs e1 x with
  | exc c ns xs =>
    rw [hr] at ed rx
    obtain ⟨b, eb, rfl⟩ := Option.map_eq_some_iff.mp ed
    unfold Rp at rx
    obtain ⟨_, a, C, dx, rfl, hC, hF, hd⟩ := rx
    obtain ⟨h1, h2⟩ := hx c b eb C hC
    refine fin rfl (.inr ⟨a, C, dx, rfl, ex _ _ hF, fun d ed => ?_, h1, h2⟩)
    rcases hd with ⟨_, _, hd⟩ | ⟨d2, vs2, e1, e2, _⟩
    · rw [hd] at ed; cases ed
    · rw [e1] at ed; cases ed; exact ⟨_, ex _ _ e2⟩
  | un => rw [hr] at ed; cases ed
  | sl _ => rw [hr] at ed; cases ed
  | obj _ _ _ _ => rw [hr] at ed; cases ed
  | scr _ => rw [hr] at ed; cases ed
  | _ =>
    rw [hr] at ed
    unfold fIsE tyD at ed
    dsimp only at ed
    rw [Option.bind_some] at ed
    split at ed
    · rename_i m
      cases ed
      exact plain hr rfl m rfl
    · cases ed
end

/-! ### repr -/
def rRepr (K : PySem.W.Frag) : List V → Hp → VK → Prop := fun xs H Q => ∃ v q, xs = [v] ∧ Dp K H v q ∧ q.showable = true ∧ q.hasDict = false ∧ q.depth ≤ 64 ∧ q.shown.length ≤ sizeLine ∧ Q (.str q.shown) H
theorem call_reprD {X : Cx} (hg : X.A.guards = some []) (hu : X.A.units + 66 < cLine) : CallR X (.builtin "repr") (rRepr X.K) := by
  intro pins s σ H xs us Q I r h
  obtain ⟨v, q, rfl, dp, h1, h2, h3, h4, k⟩ := h
  obtain ⟨u, rfl, ru⟩ := vals1 r
  have fin : ∀ (h' : Heap) (t : Tok) (n : Nat), (∀ b o, s.heap.get? b = some o → h'.get? b = some o) → EP X pins σ Q (.str q.shown t) { s with heap := h', toks := n } := fun h' t n kp => ⟨.str q.shown, H, I.kept kp, ⟨t, rfl⟩, k⟩
  obtain ⟨as, rd⟩ := Dp.reads I q v u dp ru
  cases u with
  | ref a => exact repr_of_reads' rd h1 (PyData.noDict_hsm h2) hg (by omega) (fun _ _ e => e) (fun h' u tk hk => fin h' u tk hk) h4
  | none => cases rd; exact PySem.P.repr_of_none (fin s.heap _ _ fun _ _ e => e)
  | bool b => cases rd; exact PySem.P.repr_of_bool (fin s.heap _ _ fun _ _ e => e)
  | int i t => cases rd; exact PySem.P.repr_of_int (of_decide_eq_true (by simpa [PyData.showable] using h1)) (fin s.heap _ _ fun _ _ e => e)
  | str x t => cases rd; exact PySem.P.repr_of_str (fin s.heap _ _ fun _ _ e => e) h4
  | _ => cases rd
def fRepr : List D → Option D
  | [d] => (toPy d).bind fun q => if q.showable && !q.hasDict && decide (q.depth ≤ 64) && decide (q.shown.length ≤ sizeLine) then some (.str q.shown) else none
  | _ => none
theorem cs_repr {K : PySem.W.Frag} {mg : Str → Option Value} : CaS K mg (rRepr K) fRepr := by
  intro B σ H F env ts vs dx vx d Q R h e k
  match dx, e with
  | [x], e =>
    unfold fRepr at e
    dsimp only at e
    obtain ⟨q, hq, e⟩ := Option.bind_eq_some_iff.mp e
    by_cases hz : (q.showable && !q.hasDict && decide (q.depth ≤ 64) && decide (q.shown.length ≤ sizeLine)) = true
    · rw [if_pos hz] at e
      cases e
      simp only [Bool.and_eq_true, Bool.not_eq_true', decide_eq_true_eq] at hz
      obtain ⟨v, S, rfl, rx⟩ := h.one
      exact ⟨v, q, rfl, rx.dp R.ex hq, hz.1.1.1, hz.1.1.2, hz.1.2, hz.2, k _ H F (R.push0 (Tm.of rp_str))⟩
    · rw [if_neg hz] at e; cases e
end DL
set_option Elab.async false
set_option linter.all false
set_option maxRecDepth 100000
set_option maxHeartbeats 4000000
/-! DLn: stores in parallel, lists taken apart, calls by names. -/
namespace DL
open PySem L2

/-! ### a, b = x, y -/
@[simp] def nPar (i j : Nat) (a : Dn (List D)) : Sn := fun env => (a env).out fun ds e => match ds with
  | [x, y] => .nx ((e.set i x).set j y)
  | _ => .no
@[simp] def nPar3 (i j l : Nat) (a : Dn (List D)) : Sn := fun env => (a env).out fun ds e => match ds with
  | [x, y, z] => .nx (((e.set i x).set j y).set l z)
  | _ => .no
section
variable {K : PySem.W.Frag} {mg : Str → Option Value} {B : Bd} {σ : L2.St} {F F' H H' : Hp} {env ts us : List D} {vs ws : List V} {d : D} {v : V}
theorem RE.store2 {i j : Nat} {x y : D} {v w : V} (R : RE K mg B σ H F env (ts ++ [x, y]) (vs ++ [v, w])) (hi : ∀ p ∈ B.pins, p.1 ≠ i) (hj : ∀ p ∈ B.pins, p.1 ≠ j) (hx : ∀ k, x ≠ .sl k) (hy : ∀ k, y ≠ .sl k) (na : noAl ts) (hij : i ≠ j) :
    RE K mg B ((σ.set i (some v)).set j (some w)) H F ((env.set i x).set j y) ts vs := by
  have e1 : ts ++ [x, y] = (ts ++ [x]) ++ [y] := by rw [List.append_assoc]; rfl
  have e2 : vs ++ [v, w] = (vs ++ [v]) ++ [w] := by rw [List.append_assoc]; rfl
  rw [e1, e2] at R
  have na1 : noAl (ts ++ [x]) := fun d hd => (List.mem_append.mp hd).elim (na d) fun z => by
    rcases List.mem_cons.mp z with z | z
    · rw [z]; exact hx
    · exact absurd z List.not_mem_nil
  have R2 := ((R.store hj hy na1).store hi hx na)
  rw [List.set_comm _ _ hij.symm, List.set_comm _ _ hij.symm] at R2
  exact R2
theorem RE.store3 {i j l : Nat} {x y z : D} {v w u : V} (R : RE K mg B σ H F env (ts ++ [x, y, z]) (vs ++ [v, w, u])) (hi : ∀ p ∈ B.pins, p.1 ≠ i) (hj : ∀ p ∈ B.pins, p.1 ≠ j) (hl : ∀ p ∈ B.pins, p.1 ≠ l) (hx : ∀ k, x ≠ .sl k) (hy : ∀ k, y ≠ .sl k) (hz : ∀ k, z ≠ .sl k) (na : noAl ts)
    (hij : i ≠ j) (hil : i ≠ l) (hjl : j ≠ l) : RE K mg B (((σ.set i (some v)).set j (some w)).set l (some u)) H F (((env.set i x).set j y).set l z) ts vs := by
  have e1 : ts ++ [x, y, z] = (ts ++ [x, y]) ++ [z] := by rw [List.append_assoc]; rfl
  have e2 : vs ++ [v, w, u] = (vs ++ [v, w]) ++ [u] := by rw [List.append_assoc]; rfl
  rw [e1, e2] at R
  have na1 : noAl (ts ++ [x, y]) := fun d hd => (List.mem_append.mp hd).elim (na d) fun q => by
    rcases List.mem_cons.mp q with q | q
    · rw [q]; exact hx
    · rcases List.mem_cons.mp q with q | q
      · rw [q]; exact hy
      · exact absurd q List.not_mem_nil
  have R2 := (R.store hl hz na1).store2 hi hj hx hy na hij
  rw [List.set_comm _ _ hil.symm, List.set_comm _ _ hjl.symm, List.set_comm _ _ hil.symm, List.set_comm _ _ hjl.symm] at R2
  exact R2
end
section
variable {X : Cx} {W : WX} {P : List Nat} {x y z : Str} {a b c : Expr} {px py pz pt pos : Pos} {kt k2 : Nat} {pt2 : Pos} {da : Dn (List D)}
theorem gs_par (i j : Nat) (hc : X.calm = true) (hN : X.N.Nodup) (ha : GAU X W [a, b] da) (hi : X.N[i]? = some x := by rfl) (hj : X.N[j]? = some y := by rfl) (hij : i ≠ j := by decide)
    (hx : X.env.scope.names.lookup x = some .local := by rfl) (hy : X.env.scope.names.lookup y = some .local := by rfl) (hpi : P.contains i = false := by rfl) (hpj : P.contains j = false := by rfl)
    (hw : swappedStores [.Tuple [.Name x px, .Name y py] kt pt] (.Tuple [a, b] k2 pt2) X.env = pure (some [x, y]) := by rfl)
    (hs : swapsWithSole [.Tuple [.Name x px, .Name y py] kt pt] (.Tuple [a, b] k2 pt2) pos.line X.env = pure false := by rfl) :
    GS X W P (.Assign [.Tuple [.Name x px, .Name y py] kt pt] (.Tuple [a, b] k2 pt2) pos) (nPar i j da) := by
  refine PS.imp (ps_par hc hN hi hj hij hx hy ha hw hs) fun T σ H ⟨B, F, env, ts, vs, hpp, na, R, q⟩ => ?_
  refine ⟨B, F, env, ts, vs, R, (ResP.out q).mono (fun ds e1 q1 ws H1 F1 hl nl R1 => ?_) fun _ _ _ _ z => z⟩
  match ds, ws, hl, q1 with
  | [u, w], [u1, w1], _, q1 =>
    exact ⟨u1, w1, rfl, q1 _ H1 F1 (R1.store2 (pin_ne hpp hpi) (pin_ne hpp hpj) (nl u (by simp)) (nl w (by simp)) na hij)⟩
  | [], _, _, q1 => exact q1.elim
  | [_], _, _, q1 => exact q1.elim
  | _ :: _ :: _ :: _, _, _, q1 => exact q1.elim
theorem gs_par3 (i j l : Nat) (hc : X.calm = true) (hN : X.N.Nodup) (ha : GAU X W [a, b, c] da) (hi : X.N[i]? = some x := by rfl) (hj : X.N[j]? = some y := by rfl) (hl : X.N[l]? = some z := by rfl) (hij : i ≠ j := by decide) (hil : i ≠ l := by decide) (hjl : j ≠ l := by decide)
    (hx : X.env.scope.names.lookup x = some .local := by rfl) (hy : X.env.scope.names.lookup y = some .local := by rfl) (hz : X.env.scope.names.lookup z = some .local := by rfl) (hpi : P.contains i = false := by rfl) (hpj : P.contains j = false := by rfl) (hpl : P.contains l = false := by rfl)
    (hw : swappedStores [.Tuple [.Name x px, .Name y py, .Name z pz] kt pt] (.Tuple [a, b, c] k2 pt2) X.env = pure (some [x, y, z]) := by rfl)
    (hs : swapsWithSole [.Tuple [.Name x px, .Name y py, .Name z pz] kt pt] (.Tuple [a, b, c] k2 pt2) pos.line X.env = pure false := by rfl) :
    GS X W P (.Assign [.Tuple [.Name x px, .Name y py, .Name z pz] kt pt] (.Tuple [a, b, c] k2 pt2) pos) (nPar3 i j l da) := by
  refine PS.imp (ps_par3 hc hN hi hj hl hij hil hjl hx hy hz ha hw hs) fun T σ H ⟨B, F, env, ts, vs, hpp, na, R, q⟩ => ?_
  refine ⟨B, F, env, ts, vs, R, (ResP.out q).mono (fun ds e1 q1 ws H1 F1 hl nl R1 => ?_) fun _ _ _ _ z => z⟩
  match ds, ws, hl, q1 with
  | [u, w, r], [u1, w1, r1], _, q1 =>
    exact ⟨u1, w1, r1, rfl, q1 _ H1 F1 (R1.store3 (pin_ne hpp hpi) (pin_ne hpp hpj) (pin_ne hpp hpl) (nl u (by simp)) (nl w (by simp)) (nl r (by simp)) na hij hil hjl)⟩
  | [], _, _, q1 => exact q1.elim
  | [_], _, _, q1 => exact q1.elim
  | [_, _], _, _, q1 => exact q1.elim
  | _ :: _ :: _ :: _ :: _, _, _, q1 => exact q1.elim
end

/-! ### (a, b, ..) = a list -/
@[simp] def tgUnl (gs : List (D → List D → Option (List D))) : D → List D → Option (List D) := fun d env => match d with
  | .lst _ xs => if frozL xs then tgAll gs xs env else none
  | _ => none
theorem tgAll_len : ∀ {gs : List (D → List D → Option (List D))} {xs env e1 : List D}, tgAll gs xs env = some e1 → xs.length = gs.length
  | [], [], _, _, _ => rfl
  | [], _ :: _, _, _, h => by cases h
  | _ :: _, [], _, _, h => by cases h
  | g :: gs, x :: xs, env, e1, h => by
    have h' : ((g x env).bind fun e1 => tgAll gs xs e1) = some e1 := h
    obtain ⟨e3, _, h2⟩ := Option.bind_eq_some_iff.mp h'
    rw [List.length_cons, List.length_cons, tgAll_len h2]
section
variable {K : PySem.W.Frag} {mg : Str → Option Value} {B : Bd} {σ : L2.St} {F F' H H' : Hp} {env ts us : List D} {vs ws : List V} {d : D} {v : V}
theorem RE.push0L : ∀ {xs : List D} {ws : List V} {ts : List D} {vs : List V}, RpL K mg F H xs ws [] → RE K mg B σ H F env ts vs → RE K mg B σ H F env (ts ++ xs) (vs ++ ws)
  | [], ws, ts, vs, h, r => by unfold RpL at h; rw [h.1, List.append_nil, List.append_nil]; exact r
  | x :: xs, ws, ts, vs, h, r => by
    unfold RpL at h
    obtain ⟨y, rr, S1, S2, rfl, e2, p1, p2⟩ := h
    obtain ⟨rfl, rfl⟩ := List.append_eq_nil_iff.mp e2.symm
    have z := RE.push0L p2 (r.push0 (Tm.of p1))
    rw [List.append_assoc, List.append_assoc] at z
    exact z
end
section
variable {X : Cx} {W : WX} {P T : List Nat} {es : List Expr} {gs : List (D → List D → Option (List D))} {pos : Pos}
theorem gg_unl {kk : Nat} (hc : X.calm = true) (h : GGs X P T es gs) (hl : (assignEach es X.env).length = gs.length := by rfl) (hst : (assignEach es X.env).findIdx? (·.1) = none := by rfl) : GG X P T (.Tuple es kk pos) (tgUnl gs) :=
  PG.imp (pg_unl (n := gs.length) hc h hl hst) fun v σ H Q ⟨B, F, env, ts, vs, d, e1, hpp, na, R, hd, eg, q⟩ => by
    cases d with
    | lst o xs =>
      have eg' : (if frozL xs then tgAll gs xs env else none) = some e1 := eg
      cases hf : frozL xs with
      | false => rw [hf, if_neg Bool.false_ne_true] at eg'; cases eg'
      | true =>
        rw [hf, if_pos rfl] at eg'
        obtain ⟨S, rd⟩ := R.last (d := .lst o xs) (fun z => nomatch z)
        have rd' : Rp X.K X.mg F H (.lst o xs) v S := rd
        obtain ⟨a, ws, rfl, rl, sq⟩ := lst_inv0 rd' R.ex hf
        exact ⟨a, ws, rfl, .inl (.inl sq), by rw [← rl.len, tgAll_len eg'], B, F, env, ts, vs, xs, e1, hpp, na, RE.push0L rl (R.drop rfl), rl.len, hf, eg', q⟩
    | _ => cases eg
end

/-! ### f(e, .., k = e, ..) -/
abbrev GK (X : Cx) (W : WX) (kws : List Keyword) (den : Dn (List D)) : Prop := PK X kws (rdAU X.K X.mg W den)
theorem PK.imp {X : Cx} {e : List Keyword} {t t' : TA} (h : PK X e t) (k : ∀ σ H Q, t' σ H Q → t σ H Q) : PK X e t' := ⟨fun pos pins s σ H Q I q => h.run pos pins s σ H Q I (k σ H Q q)⟩
@[simp] def dApp (a b : Dn (List D)) : Dn (List D) := a.bind fun xs => b.bind fun ys env => .ok (xs ++ ys) env
/-- the parameters' order: places in the arguments as they come, then the defaults -/
@[simp] def ordL {α : Type} (dflt : α) (ord : List Nat) (xs : List α) : List α := ord.map fun i => xs.getD i dflt
@[simp] def dFnK (ord : List Nat) (n : Nat) (fden : List D → FR) (dd : List D) (args : Dn (List D)) : Dn D := args.bind fun ds env => if decide (ord.length = n) && frozL ds && ord.all (fun i => decide (i < ds.length + dd.length)) then match fden (ordL .un ord (ds ++ dd)) with
    | .ok d _ => if isSl d || isUn d then .no else .ok d env
    | .er c ns ys _ => .er c ns ys env
    | .no => .no
  else .no
section
variable {X : Cx} {W : WX} {k : Nat} {f : Addr} {fd : FuncData} {ps ks : List Str} {fden : List D → FR} {x : Str} {p pos kpos : Pos} {e : Expr} {es : List Expr} {kws : List Keyword} {da dk : Dn (List D)} {de : Dn D} {nm : Option Str} {sp : Sp}
theorem gk_nil : GK X W [] dNil := PK.imp pk_nil fun σ H Q ⟨B, F, env, ts, vs, R, q⟩ => q [] H F rfl (fun d h => absurd h List.not_mem_nil) (by rw [List.append_nil, List.append_nil]; exact R)
theorem gk_cons (ha : GEU X W e de) (hr : GK X W kws dk) : GK X W (⟨nm, e, kpos⟩ :: kws) (dCons de dk) := by
  refine PK.imp (pk_cons ha hr) fun σ H Q ⟨B, F, env, ts, vs, R, q⟩ => ?_
  refine ⟨B, F, env, ts, vs, R, (ResP.bind q).mono (fun x e1 h1 v H1 F1 hx R1 => ?_) fun _ _ _ _ z => z⟩
  refine ⟨B, F1, e1, ts ++ [x], vs ++ [v], R1, (ResP.bind h1).mono (fun xs e2 h2 ws H2 F2 hl hn R2 => ?_) fun _ _ _ _ z => z.pop rfl⟩
  rw [List.append_assoc, List.append_assoc] at R2
  exact h2 (v :: ws) H2 F2 (by simp [hl]) (fun d hd => (List.mem_cons.mp hd).elim (fun z => by rw [z]; exact hx) fun z => hn d z) R2
def tKw (sp : Sp) (gV : List V → List V) (W : WX) (t tk : TA) : TE := fun σ H Q => t σ H fun vs H1 => tk σ H1 fun zs H2 => sp (gV (vs ++ zs)) H2 Q (WE W σ)
/-- how names bind -/
structure OrdB (K : PySem.W.Frag) (fd : FuncData) (ps ks : List Str) (ord : List Nat) (m : Nat) (ds : List Value) : Prop where
  to : ∀ (s : Shared) (us ws : List Value), K.In s.heap → us.length = m → ws.length = ks.length → BindsTo s fd ⟨us, ks.zip ws⟩ (ps.zip (ordL .none ord (us ++ ws ++ ds)))
  len : ord.length = ps.length
theorem ord_vals {ord : List Nat} {vs : List V} {us : List Value} (h : Vals vs us) : Vals (ordL .non ord vs) (ordL .none ord us) := by
  unfold ordL
  induction ord with
  | nil => exact .nil
  | cons i ord ih =>
    rw [List.map_cons, List.map_cons]
    refine .cons ?_ ih
    have l := h.length
    rw [List.getD_eq_getElem?_getD, List.getD_eq_getElem?_getD]
    cases q : vs[i]? with
    | none =>
      have : us[i]? = none := by
        rw [List.getElem?_eq_none_iff] at q ⊢
        omega
      rw [this]
      rfl
    | some v =>
      obtain ⟨u, hu, r⟩ := h.get q
      rw [hu]
      exact r
theorem run_GK {pins : List (Addr × Obj)} {σ : L2.St} {H : Hp} {s : Shared} {Q : VK} {us ws dsv : List Value} {vs zs dvs : List V} {ord : List Nat} (tk : Takes X W) (F : FnG X.prog X.w X.K X.mg X.base (L2.CX X.prog X.w) k f fd ps sp) (hr : Room k X.A) (hgd : X.A.guards = some []) (hb : OrdB X.K fd ps ks ord us.length dsv) (hd : Vals dvs dsv) (hl : ws.length = ks.length)
    (I : Inv X pins σ H s) (r : Vals vs us) (rz : Vals zs ws) (h : sp (ordL .non ord (vs ++ zs ++ dvs)) H Q (WE W σ)) : wpAny (model X.prog X.w) X.A (call (.ref f) us (ks.zip ws)) (EP X pins σ Q) X.xe s := by
  have rr : Vals (ordL .non ord (vs ++ zs ++ dvs)) (ordL .none ord (us ++ ws ++ dsv)) := ord_vals ((r.append rz).append hd)
  refine wpAny_call (codeAny_mono (F.run X.A X.stack s H ⟨us, ks.zip ws⟩ _ _ Q (WE W σ) hr hgd I.env0 (hb.to s us ws I.kIn rfl hl) rr h) fun res s' hq => ?_)
  match res, hq with
  | .error e, hq => exact passAt tk σ pins H s e s' I hq
  | .ok (.ret u), hq => exact I.after hq
  | .ok .next, hq => exact hq.elim
  | .ok .brk, hq => exact hq.elim
  | .ok .cont, hq => exact hq.elim
theorem pe_kw0 {ord : List Nat} {dsv : List Value} {dvs : List V} {tk' : TA} (tk : Takes X W) (hgd : X.A.guards = some []) (F : FnG X.prog X.w X.K X.mg X.base (L2.CX X.prog X.w) k f fd ps sp) (hr : Room k X.A) (hm : X.mg x = some (.ref f)) (hk : PySem.W.keepIn X.K (.ref f) = true) (hb : OrdB X.K fd ps ks ord 0 dsv) (hd : Vals dvs dsv)
    (hkw : PK X kws tk') (hlen : ∀ σ H (Q : List V → Hp → Prop), tk' σ H Q → tk' σ H (fun ws H' => ws.length = ks.length ∧ Q ws H')) (hg : Gl X x) (hdb : (x == ("__debug__" : Str)) = false) (hall : (backToKw pos (keywordEach kws X.env)).all (·.1.isSome) = true) (hks : (backToKw pos (keywordEach kws X.env)).filterMap (·.1) = ks)
    (hpl : ((backTo pos (starEach [] X.env)).any (·.1) || (backToKw pos (keywordEach kws X.env)).any (·.1.isNone)) = false) :
    PE X (.Call (.Name x p) [] kws pos) (fun σ H Q => tk' σ H fun zs H2 => sp (ordL .non ord (zs ++ dvs)) H2 Q (WE W σ)) := by
  refine ⟨fun pins s σ H Q I h => wpAny_Call_Name_kw (ld_glob I hg hm ?_ hdb)⟩
  refine PySem.W.callWith_KW0 (h₀ := X.base) I.ok.mod.kin hk hall (thn (hkw.run pos pins s σ H _ I (hlen σ H _ h)) fun ws s2 hh => ?_) hpl
  obtain ⟨zs, H2, I2, rz, hl, q2⟩ := hh
  refine ⟨I2.kIn, ?_⟩
  rw [hks]
  exact run_GK (us := []) (vs := []) tk F hr hgd hb hd (by rw [← rz.length, hl]) I2 .nil rz q2
theorem pe_kw {ord : List Nat} {dsv : List Value} {dvs : List V} {t tk' : TA} (tk : Takes X W) (hgd : X.A.guards = some []) (F : FnG X.prog X.w X.K X.mg X.base (L2.CX X.prog X.w) k f fd ps sp) (hr : Room k X.A) (hm : X.mg x = some (.ref f)) (hk : PySem.W.keepIn X.K (.ref f) = true) (hb : OrdB X.K fd ps ks ord (e :: es).length dsv) (hd : Vals dvs dsv)
    (ha : PA X (e :: es) t) (hlena : ∀ σ H (Q : List V → Hp → Prop), t σ H Q → t σ H (fun ws H' => ws.length = (e :: es).length ∧ Q ws H')) (hkw : PK X kws tk') (hlen : ∀ σ H (Q : List V → Hp → Prop), tk' σ H Q → tk' σ H (fun ws H' => ws.length = ks.length ∧ Q ws H')) (hg : Gl X x) (hdb : (x == ("__debug__" : Str)) = false) (hall : (backToKw pos (keywordEach kws X.env)).all (·.1.isSome) = true) (hks : (backToKw pos (keywordEach kws X.env)).filterMap (·.1) = ks)
    (he : starEach (e :: es) X.env = (false, eval e X.env) :: starEach es X.env) (hpl : ((backTo pos (starEach (e :: es) X.env)).any (·.1) || (backToKw pos (keywordEach kws X.env)).any (·.1.isNone)) = false) :
    PE X (.Call (.Name x p) (e :: es) kws pos) (fun σ H Q => t σ H fun vs H1 => tk' σ H1 fun zs H2 => sp (ordL .non ord (vs ++ zs ++ dvs)) H2 Q (WE W σ)) := by
  refine ⟨fun pins s σ H Q I h => wpAny_Call_Name_kw (ld_glob I hg hm ?_ hdb)⟩
  refine PySem.W.callWith_KW (h₀ := X.base) I.ok.mod.kin hk hall (thn (ha.run pos pins s σ H _ I (hlena σ H _ h)) fun us s1 hh => ?_) hpl he
  obtain ⟨vs, H1, I1, r, hl1, q⟩ := hh
  refine thn (hkw.run pos pins s1 σ H1 _ I1 (hlen σ H1 _ q)) fun ws s2 hh => ?_
  obtain ⟨zs, H2, I2, rz, hl, q2⟩ := hh
  refine ⟨I2.kIn, ?_⟩
  rw [hks]
  exact run_GK (us := us) tk F hr hgd (by rw [← r.length, hl1]; exact hb) hd (by rw [← rz.length, hl]) I2 r rz q2
/-- the number of arguments that a denotation gives -/
def LenIs (n : Nat) (den : Dn (List D)) : Prop := ∀ env xs e, den env = .ok xs e → xs.length = n
theorem LenIs.nil : LenIs 0 dNil := fun env xs e h => by cases h; rfl
theorem LenIs.cons {n : Nat} {a : Dn D} {r : Dn (List D)} (h : LenIs n r) : LenIs (n + 1) (dCons a r) := fun env xs e q => by
  unfold dCons Dn.bind at q
  cases h1 : a env with
  | ok x e1 =>
    rw [h1] at q
    have q' : (r e1).bind (fun xs env => .ok (x :: xs) env) = .ok xs e := q
    cases h2 : r e1 with
    | ok ys e2 => rw [h2] at q'; cases q'; rw [List.length_cons, h _ _ _ h2]
    | er _ _ _ _ => rw [h2] at q'; cases q'
    | no => rw [h2] at q'; cases q'
  | er _ _ _ _ => rw [h1] at q; cases q
  | no => rw [h1] at q; cases q
theorem len_imp {n : Nat} {den : Dn (List D)} (hl : LenIs n den) (σ : L2.St) (H : Hp) (Q : List V → Hp → Prop) (h : rdAU X.K X.mg W den σ H Q) : rdAU X.K X.mg W den σ H (fun ws H' => ws.length = n ∧ Q ws H') := by
  obtain ⟨B, F, env, ts, vs, R, q⟩ := h
  refine ⟨B, F, env, ts, vs, R, ?_⟩
  cases e : den env with
  | ok xs e1 => rw [e] at q; exact fun ws H' F' h1 h2 h3 => ⟨by rw [← h1]; exact hl _ _ _ e, q ws H' F' h1 h2 h3⟩
  | er _ _ _ _ => rw [e] at q; exact q
  | no => rw [e] at q; exact q
theorem ord_rp {K : PySem.W.Frag} {mg : Str → Option Value} {F H : Hp} {ord : List Nat} {xs : List D} {vs : List V} (h : RpL K mg F H xs vs []) (ho : ord.all (fun i => decide (i < xs.length)) = true) : RpL K mg F H (ordL .un ord xs) (ordL .non ord vs) [] := by
  unfold ordL
  induction ord with
  | nil => exact RpL.nil
  | cons i ord ih =>
    rw [List.all_cons, Bool.and_eq_true, decide_eq_true_eq] at ho
    obtain ⟨v, hv, rp⟩ := RpL.get h (k := i) (d := xs[i]'ho.1) (by simp [ho.1])
    have := RpL.cons (S1 := []) (S2 := []) rp (ih ho.2)
    rw [List.map_cons, List.map_cons, List.getD_eq_getElem?_getD, List.getD_eq_getElem?_getD, hv, List.getElem?_eq_getElem ho.1]
    exact this
theorem kw_imp {B : Bd} {σ : L2.St} {H F : Hp} {env ts ds dd : List D} {vs ws dvs : List V} {ord : List Nat} {Q : VK} (hdd : ∀ F H, RpL X.K X.mg F H dd dvs []) (hlen : ord.length = ps.length) (R : RE X.K X.mg B σ H F env (ts ++ ds) (vs ++ ws)) (hl : ds.length = ws.length) (na : noAl ds)
    (q : ResP (if (decide (ord.length = ps.length) && frozL ds && ord.all (fun i => decide (i < ds.length + dd.length))) = true then (match fden (ordL .un ord (ds ++ dd)) with
      | .ok d _ => if isSl d || isUn d then Res.no else .ok d env
      | .er c ns ys _ => .er c ns ys env
      | .no => .no) else .no) (fun d e => ∀ v H' F', RE X.K X.mg B σ H' F' e (ts ++ [d]) (vs ++ [v]) → Q v H') (ErrK X.K X.mg W B σ ts vs)) :
    spD X.K X.mg ps.length fden (ordL .non ord (ws ++ dvs)) H Q (WE W σ) := by
  by_cases hz : (decide (ord.length = ps.length) && frozL ds && ord.all (fun i => decide (i < ds.length + dd.length))) = true
  · rw [if_pos hz] at q
    rw [Bool.and_eq_true, Bool.and_eq_true] at hz
    obtain ⟨⟨_, hf⟩, ho⟩ := hz
    obtain ⟨ow, r⟩ := R
    obtain ⟨ow1, S, r1, rp, _⟩ := r.takes hl na
    have e0 := rp.froz hf
    subst e0
    have rp2 : RpL X.K X.mg F H (ds ++ dd) (ws ++ dvs) [] := by
      have z := rp.append (hdd F H)
      exact z
    have rp3 := ord_rp (ord := ord) rp2 (by rw [List.length_append]; exact ho)
    have R0 : RE X.K X.mg B σ H F env ts vs := ⟨ow1, r1⟩
    have z := RE.back (fden := fden) (ds := []) (ws := []) (xs := []) (e1 := env) (ddx := ordL .un ord (ds ++ dd)) (dvx := ordL .non ord (ws ++ dvs)) (n := ps.length) (Q := Q) (E := WE W σ) (by rw [List.append_nil, List.append_nil]; exact R0) rfl (by unfold takeA; rfl) rp3 (by unfold ordL; simp [hlen]) ?_
    · exact z
    · rw [List.nil_append]
      unfold FRP
      cases hfd : fden (ordL .un ord (ds ++ dd)) with
      | no => rw [hfd] at q; exact q.elim
      | er c ns ys pss =>
        rw [hfd] at q
        have e1 : putA [] pss env = env := by unfold putA; cases pss <;> rfl
        intro cls dx H' F' R2 ee
        rw [e1] at R2
        exact q cls dx H' F' R2 ee
      | ok d pss =>
        rw [hfd] at q
        dsimp only at q
        have e1 : putA [] pss env = env := by unfold putA; cases pss <;> rfl
        by_cases hw : (isSl d || isUn d) = true
        · rw [if_pos hw] at q; exact q.elim
        · rw [if_neg hw] at q
          rw [Bool.not_eq_true, Bool.or_eq_false_iff] at hw
          refine ⟨hw.1, hw.2, fun v H' F' R2 => ?_⟩
          rw [e1] at R2
          exact q v H' F' R2
  · rw [if_neg hz] at q; exact q.elim
theorem ge_kw0 {ord : List Nat} {dsv : List Value} {dvs : List V} {dd : List D} (tk : Takes X W) (hgd : X.A.guards = some []) (F : FnD X.prog X.w X.K X.mg X.base k f fd ps fden) (hr : Room k X.A) (hm : X.mg x = some (.ref f)) (hk : PySem.W.keepIn X.K (.ref f) = true) (hb : OrdB X.K fd ps ks ord 0 dsv) (hd : Vals dvs dsv) (hdd : ∀ F H, RpL X.K X.mg F H dd dvs [])
    (hkw : GK X W kws dk) (hlen : LenIs ks.length dk) (hg : Gl X x := by rfl) (hdb : (x == ("__debug__" : Str)) = false := by decide) (hall : (backToKw pos (keywordEach kws X.env)).all (·.1.isSome) = true := by rfl) (hks : (backToKw pos (keywordEach kws X.env)).filterMap (·.1) = ks := by rfl)
    (hpl : ((backTo pos (starEach [] X.env)).any (·.1) || (backToKw pos (keywordEach kws X.env)).any (·.1.isNone)) = false := by rfl) : GE X W (.Call (.Name x p) [] kws pos) (dFnK ord ps.length fden dd dk) := by
  refine PE.imp (pe_kw0 tk hgd F hr hm hk hb hd hkw (len_imp hlen) hg hdb hall hks hpl) fun σ H Q ⟨B, F, env, ts, vs, R, q⟩ => ?_
  exact ⟨B, F, env, ts, vs, R, (ResP.bind q).mono (fun ds e1 q1 ws H1 F1 hl na R1 => kw_imp hdd hb.len R1 hl na q1) fun _ _ _ _ z => z⟩
theorem ge_kw {ord : List Nat} {dsv : List Value} {dvs : List V} {dd : List D} (tk : Takes X W) (hgd : X.A.guards = some []) (F : FnD X.prog X.w X.K X.mg X.base k f fd ps fden) (hr : Room k X.A) (hm : X.mg x = some (.ref f)) (hk : PySem.W.keepIn X.K (.ref f) = true) (hb : OrdB X.K fd ps ks ord (e :: es).length dsv) (hd : Vals dvs dsv) (hdd : ∀ F H, RpL X.K X.mg F H dd dvs [])
    (ha : GAU X W (e :: es) da) (hlena : LenIs (e :: es).length da) (hkw : GK X W kws dk) (hlen : LenIs ks.length dk) (hg : Gl X x := by rfl) (hdb : (x == ("__debug__" : Str)) = false := by decide) (hall : (backToKw pos (keywordEach kws X.env)).all (·.1.isSome) = true := by rfl) (hks : (backToKw pos (keywordEach kws X.env)).filterMap (·.1) = ks := by rfl)
    (he : starEach (e :: es) X.env = (false, eval e X.env) :: starEach es X.env := by rfl) (hpl : ((backTo pos (starEach (e :: es) X.env)).any (·.1) || (backToKw pos (keywordEach kws X.env)).any (·.1.isNone)) = false := by rfl) :
    GE X W (.Call (.Name x p) (e :: es) kws pos) (dFnK ord ps.length fden dd (dApp da dk)) := by
  refine PE.imp (pe_kw tk hgd F hr hm hk hb hd ha (len_imp hlena) hkw (len_imp hlen) hg hdb hall hks he hpl) fun σ H Q ⟨B, F, env, ts, vs, R, q⟩ => ?_
  refine ⟨B, F, env, ts, vs, R, (ResP.bind (ResP.bind q)).mono (fun ds e1 q1 ws H1 F1 hl na R1 => ?_) fun _ _ _ _ z => z⟩
  refine ⟨B, F1, e1, ts ++ ds, vs ++ ws, R1, (ResP.bind q1).mono (fun us e2 q2 zs H2 F2 hl2 na2 R2 => ?_) fun _ _ _ _ z => z.pop hl⟩
  rw [List.append_assoc, List.append_assoc] at R2
  exact kw_imp hdd hb.len R2 (by simp [hl, hl2]) (fun d hd => (List.mem_append.mp hd).elim (na d) (na2 d)) q2
end
end DL
set_option Elab.async false
set_option linter.all false
set_option maxRecDepth 100000
set_option maxHeartbeats 4000000
/-! DLo: words for the printed derivations. -/
namespace DL
open PySem L2
open PyProof.Rows (envOfC)

/-- sum of a list or a tuple of ints -/
def rSumA (K : PySem.W.Frag) : List V → Hp → VK → Prop := fun vs H Q => rSum K vs H Q ∨ ∃ (a : Addr) (ns : List Int), vs = [V.ref a] ∧ SqT K H a (ns.map V.int) ∧ Q (.int ns.sum) H
theorem cr_sumA {X : Cx} (hc : X.calm = true) : CallR X (.builtin "sum") (rSumA X.K) := by
  intro pins s σ H vs us Q I r h
  rcases h with h | ⟨a, ns, rfl, hs, q⟩
  · exact cr_sum hc pins s σ H vs us Q I r h
  · obtain ⟨its, rv, ⟨o, h1, h2, n, h3⟩, _⟩ := I.tuple hs
    rw [Vals.ref1 r]
    have hi := rv.ints
    obtain ⟨xs, hx⟩ := hi.allInts.items
    have hn : numsOf its.toArray.toList = ns := hi.numsOf
    have ht : s.heap.IsTuple a its.toArray := ⟨o, h1, h2, n, h3⟩
    rw [hx] at ht hn
    rw [PySem.nums_intItems] at hn
    refine PySem.W.ktm_sumG (I.ok.hd hc) ht fun h' tk t' hk => ?_
    rw [PySem.preSum_eq, List.take_of_length_le (by simp), hn]
    exact ⟨.int _, H, I.kept hk, ⟨_, rfl⟩, q⟩
def fSumA : List D → Option D
  | [.tup xs] => (asInts xs).map fun ns => .int ns.sum
  | ds => fSumL ds
theorem cs_sumA {K : PySem.W.Frag} {mg : Str → Option Value} : CaS K mg (rSumA K) fSumA := by
  intro B σ H F env ts vs dx vx d Q R h e k
  unfold fSumA at e
  split at e
  · obtain ⟨ns, hn, rfl⟩ := Option.map_eq_some_iff.mp e
    obtain ⟨v, S, rfl, rp⟩ := h.one
    rw [asInts_inv hn] at rp
    unfold Rp at rp
    obtain ⟨a, us, rfl, hl, hs⟩ := rp
    rw [hl.ofInts] at hs
    exact .inr ⟨a, ns, rfl, R.ex.sqT hs, k _ H F (R.push0 (Tm.of rp_int))⟩
  · exact .inl (cs_sum B σ H F env ts vs _ vx d Q R h e k)
/-- == and !=: texts by themselves, all else as data -/
def fEqS : D → D → Option D
  | .str i, .str j => some (.bl (i == j))
  | _, _ => none
def fNeS : D → D → Option D
  | .str i, .str j => some (.bl (!(i == j)))
  | _, _ => none
def fEqA : D → D → Option D := fOr fEqS fEq
def fNeA : D → D → Option D := fOr fNeS fNe
theorem os_eqS {K : PySem.W.Frag} {mg : Str → Option Value} : OpS K mg L2.rEq fEqS := by
  intro B σ H F env ts vs dx dy vx vy Sx Sy d Q R h1 h2 e k
  unfold fEqS at e
  split at e
  · cases e
    unfold Rp at h1 h2
    obtain ⟨rfl, _⟩ := h1
    obtain ⟨rfl, _⟩ := h2
    exact ⟨rfl, by rw [dec_str]; exact k _ H F (R.push0 (Tm.of rp_bl))⟩
  · cases e
theorem os_neS {K : PySem.W.Frag} {mg : Str → Option Value} : OpS K mg L2.rNe fNeS := by
  intro B σ H F env ts vs dx dy vx vy Sx Sy d Q R h1 h2 e k
  unfold fNeS at e
  split at e
  · cases e
    unfold Rp at h1 h2
    obtain ⟨rfl, _⟩ := h1
    obtain ⟨rfl, _⟩ := h2
    exact ⟨rfl, by rw [dec_str]; exact k _ H F (R.push0 (Tm.of rp_bl))⟩
  · cases e
theorem os_eqA {K : PySem.W.Frag} {mg : Str → Option Value} : OpS K mg (fun x y H Q => L2.rEq x y H Q ∨ L2.rEqD K x y H Q) fEqA := OpS.or os_eqS os_eq
theorem os_neA {K : PySem.W.Frag} {mg : Str → Option Value} : OpS K mg (fun x y H Q => L2.rNe x y H Q ∨ L2.rNeD K x y H Q) fNeA := OpS.or os_neS os_ne
theorem op_eqA {X : Cx} (hu : X.A.units + 64 < cLine) : OpR X (compareOp .Eq) (fun x y H Q => L2.rEq x y H Q ∨ L2.rEqD X.K x y H Q) := OpR.or op_eq (op_eqD hu)
theorem op_neA {X : Cx} (hu : X.A.units + 64 < cLine) : OpR X (compareOp .NotEq) (fun x y H Q => L2.rNe x y H Q ∨ L2.rNeD X.K x y H Q) := OpR.or op_ne (op_neD hu)
theorem fEqA_un1 (y : D) : fEqA .un y = none := by unfold fEqA fOr fEqS; exact fEq_un1 y
theorem fEqA_un2 (x : D) : fEqA x .un = none := by
  have : fEqS x .un = none := by cases x <;> rfl
  unfold fEqA fOr
  rw [this]
  exact fEq_un2 x
theorem fNeA_un1 (y : D) : fNeA .un y = none := by unfold fNeA fOr fNeS; exact fNe_un1 y
theorem fNeA_un2 (x : D) : fNeA x .un = none := by
  have : fNeS x .un = none := by cases x <;> rfl
  unfold fNeA fOr
  rw [this]
  exact fNe_un2 x
@[simp] theorem fEqA_int (i j : Int) : fEqA (.int i) (.int j) = some (.bl (i == j)) := rfl
@[simp] theorem fNeA_int (i j : Int) : fNeA (.int i) (.int j) = some (.bl (!(i == j))) := rfl
@[simp] theorem fEqA_str (i j : Str) : fEqA (.str i) (.str j) = some (.bl (i == j)) := rfl
@[simp] theorem fNeA_str (i j : Str) : fNeA (.str i) (.str j) = some (.bl (!(i == j))) := rfl
@[simp] theorem fEqA_bl (i j : Bool) : fEqA (.bl i) (.bl j) = some (.bl (i == j)) := rfl
@[simp] theorem fNeA_bl (i j : Bool) : fNeA (.bl i) (.bl j) = some (.bl (!(i == j))) := rfl
theorem fEqA_lst {o : Bool} {xs : List D} {y : D} : fEqA (.lst o xs) y = fEq (.lst o xs) y := rfl
theorem fNeA_lst {o : Bool} {xs : List D} {y : D} : fNeA (.lst o xs) y = fNe (.lst o xs) y := rfl
theorem fEqA_tup {xs : List D} {y : D} : fEqA (.tup xs) y = fEq (.tup xs) y := rfl
theorem fNeA_tup {xs : List D} {y : D} : fNeA (.tup xs) y = fNe (.tup xs) y := rfl
structure Has (P : Program) (w : World) (K : PySem.W.Frag) (mg : Str → Option Value) (base : Heap) (k : Nat) (x : Str) (ps : List Str) (fden : List D → FR) (dd : List D) : Prop where
  ex : ∃ f fd dvs dsv, FnD P w K mg base k f fd ps fden ∧ mg x = some (.ref f) ∧ PySem.W.keepIn K (.ref f) = true ∧ Binds K fd ps dsv ∧ Vals dvs dsv ∧ ∀ F H, RpL K mg F H dd dvs []
structure HasK (P : Program) (w : World) (K : PySem.W.Frag) (mg : Str → Option Value) (base : Heap) (k : Nat) (x : Str) (ps ks : List Str) (ord : List Nat) (m : Nat) (fden : List D → FR) (dd : List D) : Prop where
  ex : ∃ f fd dvs dsv, FnD P w K mg base k f fd ps fden ∧ mg x = some (.ref f) ∧ PySem.W.keepIn K (.ref f) = true ∧ OrdB K fd ps ks ord m dsv ∧ Vals dvs dsv ∧ ∀ F H, RpL K mg F H dd dvs []

section
variable {X : Cx} {W : WX} {P : List Nat} {k : Nat} {x : Str} {ps ks : List Str} {fden : List D → FR} {dd : List D} {p pos : Pos} {e a b : Expr} {es : List Expr} {kws : List Keyword} {da dk : Dn (List D)} {ord : List Nat}
theorem ge_fn (tk : Takes X W) (hgd : X.A.guards = some []) (h : Has X.prog X.w X.K X.mg X.base k x ps fden dd) (hr : Room k X.A) (ha : GA X W (e :: es) da) (hg : Gl X x := by rfl) (hdb : (x == ("__debug__" : Str)) = false := by decide)
    (he : starEach (e :: es) X.env = (false, eval e X.env) :: starEach es X.env := by rfl) (hpl : (backTo pos (starEach es X.env)).any (·.1) = false := by rfl) : GE X W (.Call (.Name x p) (e :: es) [] pos) (dFn ps.length fden dd da) := by
  obtain ⟨f, fd, dvs, dsv, F, hm, hk, hb, hd, hdd⟩ := h.ex
  exact ge_call tk hgd F hr hm hk hb hd hdd ha hg hdb he hpl
theorem ge_fnK0 (tk : Takes X W) (hgd : X.A.guards = some []) (h : HasK X.prog X.w X.K X.mg X.base k x ps ks ord 0 fden dd) (hr : Room k X.A) (hkw : GK X W kws dk) (hlen : LenIs ks.length dk) (hg : Gl X x := by rfl) (hdb : (x == ("__debug__" : Str)) = false := by decide)
    (hall : (backToKw pos (keywordEach kws X.env)).all (·.1.isSome) = true := by rfl) (hks : (backToKw pos (keywordEach kws X.env)).filterMap (·.1) = ks := by rfl)
    (hpl : ((backTo pos (starEach [] X.env)).any (·.1) || (backToKw pos (keywordEach kws X.env)).any (·.1.isNone)) = false := by rfl) : GE X W (.Call (.Name x p) [] kws pos) (dFnK ord ps.length fden dd dk) := by
  obtain ⟨f, fd, dvs, dsv, F, hm, hk, hb, hd, hdd⟩ := h.ex
  exact ge_kw0 tk hgd F hr hm hk hb hd hdd hkw hlen hg hdb hall hks hpl
theorem ge_fnK (tk : Takes X W) (hgd : X.A.guards = some []) (h : HasK X.prog X.w X.K X.mg X.base k x ps ks ord (e :: es).length fden dd) (hr : Room k X.A) (ha : GAU X W (e :: es) da) (hlena : LenIs (e :: es).length da) (hkw : GK X W kws dk) (hlen : LenIs ks.length dk) (hg : Gl X x := by rfl) (hdb : (x == ("__debug__" : Str)) = false := by decide)
    (hall : (backToKw pos (keywordEach kws X.env)).all (·.1.isSome) = true := by rfl) (hks : (backToKw pos (keywordEach kws X.env)).filterMap (·.1) = ks := by rfl)
    (he : starEach (e :: es) X.env = (false, eval e X.env) :: starEach es X.env := by rfl) (hpl : ((backTo pos (starEach (e :: es) X.env)).any (·.1) || (backToKw pos (keywordEach kws X.env)).any (·.1.isNone)) = false := by rfl) :
    GE X W (.Call (.Name x p) (e :: es) kws pos) (dFnK ord ps.length fden dd (dApp da dk)) := by
  obtain ⟨f, fd, dvs, dsv, F, hm, hk, hb, hd, hdd⟩ := h.ex
  exact ge_kw tk hgd F hr hm hk hb hd hdd ha hlena hkw hlen hg hdb hall hks he hpl
theorem ge_len (z : X.mg "len" = none) (ha : GA X W [e] da) (hg : Gl X "len" := by rfl) (he : starEach [e] X.env = (false, eval e X.env) :: starEach [] X.env := by rfl) (hpl : (backTo pos (starEach [] X.env)).any (·.1) = false := by rfl) : GE X W (.Call (.Name "len" p) [e] [] pos) (dCall fLen da) :=
  ge_callB call_len_seq cs_len z rfl ha hg (by decide) (by decide) he hpl
theorem ge_sum (z : X.mg "sum" = none) (hc : X.calm = true) (ha : GA X W [e] da) (hg : Gl X "sum" := by rfl) (he : starEach [e] X.env = (false, eval e X.env) :: starEach [] X.env := by rfl) (hpl : (backTo pos (starEach [] X.env)).any (·.1) = false := by rfl) : GE X W (.Call (.Name "sum" p) [e] [] pos) (dCall fSumA da) :=
  ge_callB (cr_sumA hc) cs_sumA z rfl ha hg (by decide) (by decide) he hpl
theorem ge_sorted (z : X.mg "sorted" = none) (ha : GA X W [e] da) (hg : Gl X "sorted" := by rfl) (he : starEach [e] X.env = (false, eval e X.env) :: starEach [] X.env := by rfl) (hpl : (backTo pos (starEach [] X.env)).any (·.1) = false := by rfl) : GE X W (.Call (.Name "sorted" p) [e] [] pos) (dCall fSorted da) :=
  ge_callB cr_sortedI cs_sorted z rfl ha hg (by decide) (by decide) he hpl
theorem ge_repr (z : X.mg "repr" = none) (hgd : X.A.guards = some []) (hu : X.A.units + 66 < cLine) (ha : GA X W [e] da) (hg : Gl X "repr" := by rfl) (he : starEach [e] X.env = (false, eval e X.env) :: starEach [] X.env := by rfl) (hpl : (backTo pos (starEach [] X.env)).any (·.1) = false := by rfl) : GE X W (.Call (.Name "repr" p) [e] [] pos) (dCall fRepr da) :=
  ge_callB (call_reprD hgd hu) cs_repr z rfl ha hg (by decide) (by decide) he hpl
theorem ge_min2 (z : X.mg "min" = none) (hc : X.calm = true) (ha : GA X W [a, b] da) (hg : Gl X "min" := by rfl) (he : starEach [a, b] X.env = (false, eval a X.env) :: starEach [b] X.env := by rfl) (hpl : (backTo pos (starEach [b] X.env)).any (·.1) = false := by rfl) : GE X W (.Call (.Name "min" p) [a, b] [] pos) (dCall fMin2 da) :=
  ge_callB (call_min2 hc) cs_min2 z rfl ha hg (by decide) (by decide) he hpl
theorem ge_max2 (z : X.mg "max" = none) (hc : X.calm = true) (ha : GA X W [a, b] da) (hg : Gl X "max" := by rfl) (he : starEach [a, b] X.env = (false, eval a X.env) :: starEach [b] X.env := by rfl) (hpl : (backTo pos (starEach [b] X.env)).any (·.1) = false := by rfl) : GE X W (.Call (.Name "max" p) [a, b] [] pos) (dCall fMax2 da) :=
  ge_callB (call_max2 hc) cs_max2 z rfl ha hg (by decide) (by decide) he hpl
theorem ge_intc (z : X.mg "int" = none) (ha : GA X W [e] da) (hg : Gl X "int" := by rfl) (he : starEach [e] X.env = (false, eval e X.env) :: starEach [] X.env := by rfl) (hpl : (backTo pos (starEach [] X.env)).any (·.1) = false := by rfl) : GE X W (.Call (.Name "int" p) [e] [] pos) (dCall fInt1 da) :=
  ge_callTy call_int1 cs_int1 z rfl ha hg (by decide) (by decide) he hpl
theorem ge_listc (z : X.mg "list" = none) (ha : GA X W [e] da) (hg : Gl X "list" := by rfl) (he : starEach [e] X.env = (false, eval e X.env) :: starEach [] X.env := by rfl) (hpl : (backTo pos (starEach [] X.env)).any (·.1) = false := by rfl) : GE X W (.Call (.Name "list" p) [e] [] pos) (dCall fList da) :=
  ge_callTy call_list_of cs_list z rfl ha hg (by decide) (by decide) he hpl
theorem ge_tuplec (z : X.mg "tuple" = none) (ha : GA X W [e] da) (hg : Gl X "tuple" := by rfl) (he : starEach [e] X.env = (false, eval e X.env) :: starEach [] X.env := by rfl) (hpl : (backTo pos (starEach [] X.env)).any (·.1) = false := by rfl) : GE X W (.Call (.Name "tuple" p) [e] [] pos) (dCall fTuple da) :=
  ge_callTy call_tuple_of cs_tuple z rfl ha hg (by decide) (by decide) he hpl
theorem ge_glob {x : Str} {i : Int} {pos : Pos} (hm : ∃ t, X.mg x = some (.int i t)) (hg : Gl X x := by rfl) (hd : (x == ("__debug__" : Str)) = false := by decide) : GE X W (.Name x pos) (dC (.int i)) :=
  let ⟨_, h⟩ := hm; ge_gint h hg hd
end
section
variable {P : Program} {w : World} {K : PySem.W.Frag} {mg : Str → Option Value} {base : Heap} {N : List Str} {qual : Str} {scope : Scope} {f : Addr} {cd : Value} {A : Around} {outer : List Env} {s : Shared} {H : Hp} {E : XK}
theorem tkx : Takes (cxOf (L2.CX P w) P w K mg base N qual scope f cd A outer s H E) (fun cls dx _ H' => E cls dx H') := takes_of rfl rfl rfl rfl
theorem pox : PassesOwn (model P w) (cxOf (L2.CX P w) P w K mg base N qual scope f cd A outer s H E).A (cxOf (L2.CX P w) P w K mg base N qual scope f cd A outer s H E).env (cxOf (L2.CX P w) P w K mg base N qual scope f cd A outer s H E).xe :=
  passes_of (X := cxOf (L2.CX P w) P w K mg base N qual scope f cd A outer s H E) (K := fun e s'' => L2.CX P w outer H s E e s'') rfl
end
theorem hu1 {A : Around} {k : Nat} (hr : Room k A) : A.units + 1 < cLine := by have := hr.un; omega
theorem hu64 {A : Around} {k : Nat} (hr : Room k A) : A.units + 64 < cLine := by have := hr.un; omega
theorem hu66 {A : Around} {k : Nat} (hr : Room k A) : A.units + 66 < cLine := by have := hr.un; omega
/-! ### classes of errors -/
abbrev veMro : List Value := [.type "ValueError", .type "Exception", .type "BaseException", .type "object"]
/-- a class without own __init__ that is raised -/
structure ExcR (K : PySem.W.Frag) (mg : Str → Option Value) (x : Str) : Prop where
  ex : ∃ C, mg x = some (.ref C) ∧ PySem.W.excIn K C veMro "ValueError.__new__" = true ∧ PySem.W.keepIn K (.ref C) = true ∧ PySem.W.subIn K (.ref C) (.type "BaseException") = some true ∧ PySem.W.typeIn K (.ref C) = some (.type "type")
/-- a clause's class: which classes it takes -/
structure TryT (K : PySem.W.Frag) (mg : Str → Option Value) (h : Str) (tb : List (Str × Bool)) : Prop where
  ex : ∃ C, mg h = some (.ref C) ∧ ∀ cl y, tb.lookup cl = some y → ∀ D, mg cl = some (.ref D) → PySem.W.exmOne K (.ref D) (.ref C) = some y
/-- a class asked after by isinstance -/
structure IsiT (K : PySem.W.Frag) (mg : Str → Option Value) (h : Str) (tb : List (Str × Bool)) (tt : List String) : Prop where
  ex : ∃ C, mg h = some (.ref C) ∧ (∀ c b, tb.lookup c = some b → ∀ D, mg c = some (.ref D) → ExcK K D ∧ PySem.W.kitOne K (.ref D) (.ref C) = some b) ∧ ∀ t, t ∈ tt → PySem.W.kitOne K (.type t) (.ref C) = some false
section
variable {X : Cx} {W Wout : WX} {P : List Nat} {x m n y : Str} {j : Nat} {p p2 pos pos2 pos' np : Pos} {e : Expr} {da : Dn D} {tb : List (Str × Bool)} {tt : List String} {body suite : List Stmt} {b₀ : Stmt} {b k : Sn}
theorem gs_raiseR (hc : X.calm = true) (tk : Takes X W) (h : ExcR X.K X.mg x) (hg : Gl X x := by rfl) (hdb : (x == ("__debug__" : Str)) = false := by decide) :
    GS X W P (.Raise (some (.Call (.Name x p) [.Constant (.str m) j p2] [] pos)) none pos2) (nRaise x) := by
  obtain ⟨C, h1, h2, h3, h4, h5⟩ := h.ex
  exact gs_raise hc tk PySem.F.excBase_ValueError h2 h1 h3 h4 h5 hg hdb
theorem gs_tryT (i : Nat) (h : TryT X.K X.mg x tb) (hs : X.stack = X.env :: X.outer) (hf : X.env.frame = some X.env.locals) (hN : X.N.Nodup) (tk : Takes X Wout)
    (hb : ∀ (W : WX) (pn : List (Addr × Obj)) (xe : Value → Shared → Prop), Takes (X.tr pn xe) W → PassesOwn (model X.prog X.w) X.A X.env xe → GSs (X.tr pn xe) W P body b)
    (hsu : ∀ (a : Addr) (pn : List (Addr × Obj)), GSs (X.suite a pn) WF P (b₀ :: suite) k) (hi : X.N[i]? = some n := by rfl) (hln : X.env.kindOf n = some .local := by rfl) (hp : P.contains i = false := by rfl) (hg : Gl X x := by rfl) (hdb : (x == ("__debug__" : Str)) = false := by decide) :
    GS X Wout P (.Try body [.ExceptHandler (some (.Name x np)) (some n) (b₀ :: suite) pos'] [] [] pos) (nTry i tb b k) := by
  obtain ⟨C, h1, h2⟩ := h.ex
  exact gs_try (c := .ref C) i tb h2 hs hf hN ⟨hg, hdb, .inl h1⟩ tk hb hsu hi hln hp
theorem ge_isiT (he : GE X W e da) (hm : X.mg "isinstance" = none) (h : IsiT X.K X.mg y tb tt) (hg : Gl X "isinstance" := by rfl) (hgy : Gl X y := by rfl) (hyd : (y == ("__debug__" : Str)) = false := by decide)
    (hs : starEach [e, .Name y p2] X.env = (false, eval e X.env) :: starEach [.Name y p2] X.env := by rfl) (hs2 : starEach [.Name y p2] X.env = (false, eval (.Name y p2) X.env) :: starEach [] X.env := by rfl) (hpl : (backTo pos (starEach [.Name y p2] X.env)).any (·.1) = false := by rfl) :
    GE X W (.Call (.Name "isinstance" p) [e, .Name y p2] [] pos) (dUn (fIsE tb tt) da) := by
  obtain ⟨C, h1, h2, h3⟩ := h.ex
  exact ge_isiE he hm h1 h2 h3 hg hgy hyd hs hs2 hpl
end
end DL
set_option Elab.async false
set_option linter.all false
set_option maxRecDepth 100000
set_option maxHeartbeats 4000000
/-! DLp: the four functions that every law has, and what they answer. -/
namespace DL
open PySem L2

def begT : Dn Bool := (dTest (dOp fGe (dVar 2) (dOp fPow (dC (.int 10)) (dC (.int 18)))))
def begE : Dn D := (dOp fSub (dVar 2) (dOp fPow (dC (.int 10)) (dC (.int 18))))
def b__law_begun : Sn := nSeq (nAsg 1 (dLc [2] (itLst (dVar 0)) (tgName 2) begT begE))
  (nRet (dDisp [(dC (.str "great"), dMv 1), (dC (.str "cells"), dFz (dU (dCall fList (dCons (dVar 0) (dNil))))), (dC (.str "rest"), dC (.int 0)), (dC (.str "turn"), dC (.int 0))]))
def f__law_begun : List D → FR := fdOf [0] 3 b__law_begun
def mixIn : Sn := nAsg 4 (dOp fMod (dCall fInt1 (dCons (dOp fAdd (dOp fMul (dVar 4) (dC (.int 48271))) (dVar 5)) (dNil))) (dVar 3))
def mixOut : Sn := nSeq (nAsg 4 (dOp fAdd (dOp fMul (dC (.int 130363)) (dVar 1)) (dOp fDiv (dVar 3) (dC (.int 13)))))
  (nSeq (nFor (itLst (dOp fGet (dVar 0) (dC (.str "cells")))) (tgName 5)
  mixIn)
  (nAsg 2 (dOp fAdd (dOp fMul (dVar 2) (dC (.int 2147483647))) (dOp fMod (dCall fInt1 (dCons (dOp fPow (dVar 4) (dC (.int 5))) (dNil))) (dVar 3)))))
def b__law_mixed : Sn := nSeq (nAsg 1 (dOp fAdd (dOp fGet (dVar 0) (dC (.str "turn"))) (dC (.int 1))))
  (nSeq (nDput (dVar 1) (dVar 0) (dC (.str "turn")))
  (nSeq (nAsg 2 (dC (.int 0)))
  (nSeq (nFor (itLst (dLst (dCons (dU (dC (.int 2147483629))) (dCons (dU (dC (.int 2147483587))) (dCons (dU (dC (.int 2147483579))) (dCons (dU (dC (.int 2147483563))) (dCons (dU (dC (.int 2147483549))) (dCons (dU (dC (.int 2147483543))) (dNil))))))))) (tgName 3)
  mixOut)
  (nRet (dVar 2)))))
def f__law_mixed : List D → FR := fdOf [0] 6 b__law_mixed
def b__law_take : Sn := nSeq (nIf (dAnd (dTest (dOp fEqA (dOp fGet (dVar 0) (dC (.str "rest"))) (dC (.int 0)))) (dNeNil 0 (.inr "great")))
  (nDput (dPop0 0 (.inr "great")) (dVar 0) (dC (.str "rest")))
  (nIf (dTest (dOp fEqA (dOp fGet (dVar 0) (dC (.str "rest"))) (dC (.int 0))))
  (nDput (dFn 1 f__law_mixed [] (dCons (dVar 0) (dNil))) (dVar 0) (dC (.str "rest")))
  (nSkip)))
  (nSeq (nAsg 2 (dOp fMod (dCall fInt1 (dCons (dOp fGet (dVar 0) (dC (.str "rest"))) (dNil))) (dVar 1)))
  (nSeq (nDput (dOp fDiv (dOp fGet (dVar 0) (dC (.str "rest"))) (dVar 1)) (dVar 0) (dC (.str "rest")))
  (nRet (dVar 2))))
def f__law_take : List D → FR := fdOf [0, 1] 3 b__law_take
def b__law_pick : Sn := nRet (dOp fIx (dVar 1) (dFn 2 f__law_take [] (dCons (dVar 0) (dCons (dCall fLen (dCons (dVar 1) (dNil))) (dNil)))))
def f__law_pick : List D → FR := fdOf [0, 1] 2 b__law_pick

/-! ### equations -/
section
variable {i : Nat} {b o : Bool} {j : Int} {x c : Str} {xs ys ds : List D} {ks : List Key} {ns : List Str} {ms : List Int} {env ps : List D} {d p : D}
@[simp] theorem isUn_un : isUn (.un) = true := by unfold isUn; rfl
@[simp] theorem isSl_un : isSl (.un) = false := by unfold isSl; rfl
@[simp] theorem isUn_sl : isUn (.sl i) = false := by unfold isUn; rfl
@[simp] theorem isSl_sl : isSl (.sl i) = true := by unfold isSl; rfl
@[simp] theorem isUn_non : isUn (.non) = false := by unfold isUn; rfl
@[simp] theorem isSl_non : isSl (.non) = false := by unfold isSl; rfl
@[simp] theorem isUn_bl : isUn (.bl b) = false := by unfold isUn; rfl
@[simp] theorem isSl_bl : isSl (.bl b) = false := by unfold isSl; rfl
@[simp] theorem isUn_int : isUn (.int j) = false := by unfold isUn; rfl
@[simp] theorem isSl_int : isSl (.int j) = false := by unfold isSl; rfl
@[simp] theorem isUn_stDr : isUn (.str x) = false := by unfold isUn; rfl
@[simp] theorem isSl_stDr : isSl (.str x) = false := by unfold isSl; rfl
@[simp] theorem isUn_lst : isUn (.lst o xs) = false := by unfold isUn; rfl
@[simp] theorem isSl_lst : isSl (.lst o xs) = false := by unfold isSl; rfl
@[simp] theorem isUn_tup : isUn (.tup xs) = false := by unfold isUn; rfl
@[simp] theorem isSl_tup : isSl (.tup xs) = false := by unfold isSl; rfl
@[simp] theorem isUn_dct : isUn (.dct o ks xs) = false := by unfold isUn; rfl
@[simp] theorem isSl_dct : isSl (.dct o ks xs) = false := by unfold isSl; rfl
@[simp] theorem isUn_obj : isUn (.obj o c ns xs) = false := by unfold isUn; rfl
@[simp] theorem isSl_obj : isSl (.obj o c ns xs) = false := by unfold isSl; rfl
@[simp] theorem isUn_exc : isUn (.exc c ns xs) = false := by unfold isUn; rfl
@[simp] theorem isSl_exc : isSl (.exc c ns xs) = false := by unfold isSl; rfl
@[simp] theorem isUn_scr : isUn (.scr ms) = false := by unfold isUn; rfl
@[simp] theorem isSl_scr : isSl (.scr ms) = false := by unfold isSl; rfl
@[simp] theorem froz_un : froz (.un) = false := by unfold froz; rfl
@[simp] theorem fz_un : fz (.un) = (.un) := by unfold fz; rfl
@[simp] theorem froz_slE : froz (.sl i) = false := by unfold froz; rfl
@[simp] theorem fz_slE : fz (.sl i) = (.sl i) := by unfold fz; rfl
@[simp] theorem froz_non : froz (.non) = true := by unfold froz; rfl
@[simp] theorem fz_non : fz (.non) = (.non) := by unfold fz; rfl
@[simp] theorem froz_bl : froz (.bl b) = true := by unfold froz; rfl
@[simp] theorem fz_bl : fz (.bl b) = (.bl b) := by unfold fz; rfl
@[simp] theorem froz_int : froz (.int j) = true := by unfold froz; rfl
@[simp] theorem fz_int : fz (.int j) = (.int j) := by unfold fz; rfl
@[simp] theorem froz_stDr : froz (.str x) = true := by unfold froz; rfl
@[simp] theorem fz_str : fz (.str x) = (.str x) := by unfold fz; rfl
@[simp] theorem froz_lst : froz (.lst o xs) = (!o && frozL xs) := by unfold froz; rfl
@[simp] theorem fz_lst : fz (.lst o xs) = .lst false (fzL xs) := by unfold fz; rfl
@[simp] theorem froz_tup : froz (.tup xs) = frozL xs := by unfold froz; rfl
@[simp] theorem fz_tup : fz (.tup xs) = .tup (fzL xs) := by unfold fz; rfl
@[simp] theorem froz_dct : froz (.dct o ks xs) = (!o && frozL xs) := by unfold froz; rfl
@[simp] theorem fz_dct : fz (.dct o ks xs) = .dct false ks (fzL xs) := by unfold fz; rfl
@[simp] theorem froz_obj : froz (.obj o c ns xs) = (!o && frozL xs) := by unfold froz; rfl
@[simp] theorem fz_obj : fz (.obj o c ns xs) = .obj false c ns (fzL xs) := by unfold fz; rfl
@[simp] theorem froz_exc : froz (.exc c ns xs) = true := by unfold froz; rfl
@[simp] theorem fz_exc : fz (.exc c ns xs) = (.exc c ns xs) := by unfold fz; rfl
@[simp] theorem froz_scr : froz (.scr ms) = true := by unfold froz; rfl
@[simp] theorem fz_scr : fz (.scr ms) = (.scr ms) := by unfold fz; rfl
@[simp] theorem tyD_un : tyD (.un) = none := by unfold tyD; rfl
@[simp] theorem isNone_un : isNone (.un) = false := by unfold isNone; rfl
@[simp] theorem tyD_sl : tyD (.sl i) = none := by unfold tyD; rfl
@[simp] theorem isNone_sl : isNone (.sl i) = false := by unfold isNone; rfl
@[simp] theorem tyD_non : tyD (.non) = some "NoneType" := by unfold tyD; rfl
@[simp] theorem isNone_non : isNone (.non) = true := by unfold isNone; rfl
@[simp] theorem tyD_bl : tyD (.bl b) = some "bool" := by unfold tyD; rfl
@[simp] theorem isNone_bl : isNone (.bl b) = false := by unfold isNone; rfl
@[simp] theorem tyD_int : tyD (.int j) = some "int" := by unfold tyD; rfl
@[simp] theorem isNone_int : isNone (.int j) = false := by unfold isNone; rfl
@[simp] theorem tyD_str : tyD (.str x) = some "str" := by unfold tyD; rfl
@[simp] theorem isNone_str : isNone (.str x) = false := by unfold isNone; rfl
@[simp] theorem tyD_lst : tyD (.lst o xs) = some "list" := by unfold tyD; rfl
@[simp] theorem isNone_lst : isNone (.lst o xs) = false := by unfold isNone; rfl
@[simp] theorem tyD_tup : tyD (.tup xs) = some "tuple" := by unfold tyD; rfl
@[simp] theorem isNone_tup : isNone (.tup xs) = false := by unfold isNone; rfl
@[simp] theorem tyD_dct : tyD (.dct o ks xs) = some "dict" := by unfold tyD; rfl
@[simp] theorem isNone_dct : isNone (.dct o ks xs) = false := by unfold isNone; rfl
@[simp] theorem tyD_obj : tyD (.obj o c ns xs) = none := by unfold tyD; rfl
@[simp] theorem isNone_obj : isNone (.obj o c ns xs) = false := by unfold isNone; rfl
@[simp] theorem tyD_exc : tyD (.exc c ns xs) = none := by unfold tyD; rfl
@[simp] theorem isNone_exc : isNone (.exc c ns xs) = false := by unfold isNone; rfl
@[simp] theorem tyD_scr : tyD (.scr ms) = none := by unfold tyD; rfl
@[simp] theorem isNone_scr : isNone (.scr ms) = false := by unfold isNone; rfl
@[simp] theorem frozL_nil : frozL [] = true := by unfold frozL; rfl
@[simp] theorem frozL_cons : frozL (d :: ds) = (froz d && frozL ds) := by conv => lhs; unfold frozL
@[simp] theorem fzL_nil : fzL [] = [] := by unfold fzL; rfl
@[simp] theorem fzL_cons : fzL (d :: ds) = fz d :: fzL ds := by conv => lhs; unfold fzL
@[simp] theorem rs_sl : rs env (.sl i) = env.getD i .un := rfl
@[simp] theorem rs_n (h : isSl d = false) : rs env d = d := by cases d <;> first | rfl | cases h
@[simp] theorem dUse_sl : dUse (.sl i) env = if isUn (env.getD i .un) || isSl (fz (env.getD i .un)) then .no else .ok (fz (env.getD i .un)) (env.set i (fz (env.getD i .un))) := rfl
@[simp] theorem dUse_n (h : isSl d = false) : dUse d env = .ok d env := by cases d <;> first | rfl | cases h
@[simp] theorem retD_sl : retD (.sl i) env = if isUn (env.getD i .un) || isSl (env.getD i .un) then .no else .rt (env.getD i .un) (env.set i .un) := rfl
@[simp] theorem retD_n (h : isSl d = false) : retD d env = .rt d env := by cases d <;> first | rfl | cases h
@[simp] theorem takeA_nil : takeA [] env = some ([], env) := rfl
@[simp] theorem takeA_sl : takeA (.sl i :: ds) env = (match takeA ds env with
    | none => none
    | some (xs, e1) => if isUn (e1.getD i .un) then none else some (e1.getD i .un :: xs, e1.set i .un)) := by
  conv => lhs; unfold takeA
  all_goals (cases takeA ds env <;> rfl)
@[simp] theorem takeA_n (h : isSl d = false) : takeA (d :: ds) env = (match takeA ds env with
    | none => none
    | some (xs, e1) => some (d :: xs, e1)) := by
  conv => lhs; unfold takeA
  all_goals (cases takeA ds env with
    | none => rfl
    | some p => cases d <;> first | rfl | cases h)
@[simp] theorem putA_nil : putA [] ps env = env := by unfold putA; cases ps <;> rfl
@[simp] theorem putA_nil2 : putA ds [] env = env := by unfold putA; cases ds <;> rfl
@[simp] theorem putA_sl : putA (.sl i :: ds) (p :: ps) env = putA ds ps (if isUn p then env else env.set i p) := by
  conv => lhs; unfold putA
@[simp] theorem putA_n (h : isSl d = false) : putA (d :: ds) (p :: ps) env = putA ds ps env := by
  conv => lhs; unfold putA
  all_goals (cases d <;> first | rfl | cases h)
@[simp] theorem asKey_int : asKey (.int j) = some (.inl j) := rfl
@[simp] theorem asKey_str : asKey (.str x) = some (.inr x) := rfl
@[simp] theorem asBool_bl : asBool (.bl b) = some b := rfl
@[simp] theorem fIs_non (h : isUn d = false) : fIs d .non = some (.bl (isNone d)) := by cases d <;> first | rfl | cases h
@[simp] theorem fIsN_non (h : isUn d = false) : fIsN d .non = some (.bl (!isNone d)) := by cases d <;> first | rfl | cases h
end
section
variable {i j : Int} {o o' : Bool} {xs ys : List D} {ms : List Int} {b : Bool}
@[simp] theorem fAdd_int : fAdd (.int i) (.int j) = some (.int (i + j)) := rfl
@[simp] theorem fSub_int : fSub (.int i) (.int j) = some (.int (i - j)) := rfl
@[simp] theorem fMul_int : fMul (.int i) (.int j) = if cMul i j then some (.int (i * j)) else fRep (.int i) (.int j) := by
  unfold fMul fOr fIntC
  dsimp only
  split
  · rename_i h; split at h
    · rename_i c; cases h; rw [if_pos c]
    · cases h
  · rename_i h; split at h
    · cases h
    · rename_i c; rw [if_neg c]
@[simp] theorem fDiv_int : fDiv (.int i) (.int j) = if cDivW i j then some (.int (i / j)) else none := rfl
@[simp] theorem fMod_int : fMod (.int i) (.int j) = if decide (0 < j) then some (.int (i % j)) else none := rfl
@[simp] theorem fPow_int : fPow (.int i) (.int j) = if cPow i j then some (.int (i ^ j.toNat)) else none := rfl
@[simp] theorem fLt_int : fLt (.int i) (.int j) = some (.bl (decide (i < j))) := rfl
@[simp] theorem fLe_int : fLe (.int i) (.int j) = some (.bl (decide (i ≤ j))) := rfl
@[simp] theorem fGt_int : fGt (.int i) (.int j) = some (.bl (decide (j < i))) := rfl
@[simp] theorem fGe_int : fGe (.int i) (.int j) = some (.bl (decide (j ≤ i))) := rfl
@[simp] theorem fNeg_int : fNeg (.int i) = some (.int (-i)) := rfl
@[simp] theorem fMin2_int : fMin2 [.int i, .int j] = some (.int (if j < i then j else i)) := rfl
@[simp] theorem fMax2_int : fMax2 [.int i, .int j] = some (.int (if j > i then j else i)) := rfl
@[simp] theorem fInt1_int : fInt1 [.int i] = some (.int i) := rfl
@[simp] theorem fInt1_bl : fInt1 [.bl b] = some (.int (if b then 1 else 0)) := rfl
@[simp] theorem fLen_lst : fLen [.lst o xs] = some (.int xs.length) := rfl
@[simp] theorem fLen_tup : fLen [.tup xs] = some (.int xs.length) := rfl
@[simp] theorem fLen_scr : fLen [.scr ms] = some (.int ms.length) := rfl
@[simp] theorem fList_lst : fList [.lst o xs] = if frozL xs then some (.lst true xs) else none := rfl
@[simp] theorem fList_tup : fList [.tup xs] = if frozL xs then some (.lst true xs) else none := rfl
@[simp] theorem fList_scr : fList [.scr ms] = some (.lst true (ms.map .int)) := rfl
@[simp] theorem fTuple_lst : fTuple [.lst o xs] = if frozL xs then some (.tup xs) else none := rfl
@[simp] theorem fTuple_tup : fTuple [.tup xs] = if frozL xs then some (.tup xs) else none := rfl
@[simp] theorem fIx_lst : fIx (.lst o xs) (.int i) = (atI xs i).bind fun d => if froz d then some d else none := rfl
@[simp] theorem fIx_tup : fIx (.tup xs) (.int i) = (atI xs i).bind fun d => if froz d then some d else none := rfl
@[simp] theorem setL_lst {u : D} : setL (.lst true xs) (.int i) u = (ixN xs.length i).map fun j => .lst true (xs.set j u) := rfl
@[simp] theorem fEq_int : fEq (.int i) (.int j) = some (.bl (i == j)) := rfl
@[simp] theorem fNe_int : fNe (.int i) (.int j) = some (.bl (!(i == j))) := rfl
@[simp] theorem fEq_bl {c : Bool} : fEq (.bl b) (.bl c) = some (.bl (b == c)) := rfl
end

@[simp] theorem ite_app {β : Type} {c : Prop} [Decidable c] (f g : List D → β) (e : List D) : (if c then f else g) e = if c then f e else g e := by split <;> rfl
@[simp] theorem ite_ok {α : Type} {c : Prop} [Decidable c] {x y : α} {e : List D} : (if c then Res.ok x e else Res.ok y e) = Res.ok (if c then x else y) e := by split <;> rfl
/-! ### the state -/
def stK : List Key := [.inr "great", .inr "cells", .inr "rest", .inr "turn"]
def stD (g c : List Int) (r t : Int) : D := .dct true stK [.lst true (g.map .int), .lst false (c.map .int), .int r, .int t]
@[simp] theorem frozL_int (ns : List Int) : frozL (ns.map .int) = true := frozL_ints ns
@[simp] theorem fzL_int : ∀ ns : List Int, fzL (ns.map .int) = ns.map .int
  | [] => rfl
  | n :: ns => by rw [List.map_cons]; unfold fzL; rw [fzL_int ns]; rfl
theorem k_rest : kIx stK (.inr "rest") = some 2 := by decide +kernel
theorem k_turn : kIx stK (.inr "turn") = some 3 := by decide +kernel
theorem k_great : kIx stK (.inr "great") = some 0 := by decide +kernel
theorem k_cells : kIx stK (.inr "cells") = some 1 := by decide +kernel
theorem stK_nd : stK.Nodup := by decide +kernel
section
variable {g c : List Int} {r t u : Int}
@[simp] theorem froz_stD : froz (stD g c r t) = false := by unfold stD froz; rfl
@[simp] theorem isUn_stD : isUn (stD g c r t) = false := by unfold stD isUn; rfl
@[simp] theorem isSl_stD : isSl (stD g c r t) = false := by unfold stD isSl; rfl
@[simp] theorem get_rest : fGet (stD g c r t) (.str "rest") = some (.int r) := by
  show (kIx stK (.inr "rest")).bind (fun i => ([.lst true (g.map .int), .lst false (c.map .int), .int r, .int t] : List D)[i]?.bind fun d => if froz d = true then some d else none) = _
  rw [k_rest]
  rfl
@[simp] theorem get_turn : fGet (stD g c r t) (.str "turn") = some (.int t) := by
  show (kIx stK (.inr "turn")).bind (fun i => ([.lst true (g.map .int), .lst false (c.map .int), .int r, .int t] : List D)[i]?.bind fun d => if froz d = true then some d else none) = _
  rw [k_turn]
  rfl
@[simp] theorem get_cells : fGet (stD g c r t) (.str "cells") = some (.lst false (c.map .int)) := by
  show (kIx stK (.inr "cells")).bind (fun i => ([.lst true (g.map .int), .lst false (c.map .int), .int r, .int t] : List D)[i]?.bind fun d => if froz d = true then some d else none) = _
  rw [k_cells]
  show (if (!false && frozL (c.map .int)) = true then _ else _) = _
  rw [frozL_ints]
  rfl
@[simp] theorem put_rest : DL.putD (stD g c r t) (.inr "rest") (.int u) = some (stD g c u t) := by
  unfold stD DL.putD
  dsimp only
  rw [k_rest]
  dsimp only
  rw [decide_eq_true stK_nd]
  rfl
@[simp] theorem put_turn : DL.putD (stD g c r t) (.inr "turn") (.int u) = some (stD g c r u) := by
  unfold stD DL.putD
  dsimp only
  rw [k_turn]
  dsimp only
  rw [decide_eq_true stK_nd]
  rfl
@[simp] theorem sub_great : subL (stD g c r t) (.inr "great") = some (0, g.map .int) := by
  unfold stD subL
  dsimp only
  rw [k_great]
  rfl
@[simp] theorem set_great {g' : List Int} : setSub (stD g c r t) 0 (.lst true (g'.map .int)) = stD g' c r t := rfl
end
@[simp] theorem asInts_nil : asInts [] = some [] := rfl
@[simp] theorem asInts_cons {n : Int} {ds : List D} : asInts (.int n :: ds) = (asInts ds).map (n :: ·) := by conv => lhs; unfold asInts
@[simp] theorem asInts_m (ns : List Int) : asInts (ns.map .int) = some ns := asInts_map ns
theorem cDivW_ok {i j : Int} (h : 0 < j) (h2 : j < 18446744073709551616) : cDivW i j = true := by
  unfold cDivW
  rw [Bool.and_eq_true, decide_eq_true_eq, decide_eq_true_eq]
  refine ⟨h, ?_⟩
  by_cases h0 : j.natAbs = 0
  · omega
  · have : j.natAbs.log2 < 64 := (Nat.log2_lt h0).mpr (by omega)
    omega
/-! ### loops -/
theorem forD_ok {tg : D → List D → Option (List D)} {body : Sn} (I : Nat → List D → Prop) : ∀ (xs : List D) (n : Nat) (env : List D), I n env →
    (∀ (k : Nat) (x : D) (e : List D), x ∈ xs → n ≤ k → k < n + xs.length → I k e → ∃ e1 e2, tg x e = some e1 ∧ (body e1 = .nx e2 ∨ body e1 = .ct e2) ∧ I (k + 1) e2) → ∃ e, forD tg body xs env = .nx e ∧ I (n + xs.length) e
  | [], n, env, h0, _ => ⟨env, rfl, h0⟩
  | x :: xs, n, env, h0, h => by
    obtain ⟨e1, e2, h1, h2, h3⟩ := h n x env List.mem_cons_self (Nat.le_refl _) (by simp) h0
    obtain ⟨e, h4, h5⟩ := forD_ok I xs (n + 1) e2 h3 fun k y e' hy hk hk2 hI => h k y e' (List.mem_cons_of_mem _ hy) (by omega) (by simp; omega) hI
    refine ⟨e, ?_, by rw [List.length_cons, show n + (xs.length + 1) = n + 1 + xs.length by omega]; exact h5⟩
    unfold forD
    rw [h1]
    rcases h2 with h2 | h2
    · dsimp only; rw [h2]; exact h4
    · dsimp only; rw [h2]; exact h4

/-! ### _law_mixed -/
theorem mix_in {c : List Int} {st : D} {t f p b : Int} {y : D} (hp : 0 < p) : ∃ b' y', forD (tgName 5) mixIn (c.map .int) [st, .int t, .int f, .int p, .int b, y] = .nx [st, .int t, .int f, .int p, .int b', y'] ∧ (c = [] → b' = b) ∧ (c ≠ [] → 0 ≤ b' ∧ b' < p) := by
  induction c generalizing b y with
  | nil => exact ⟨b, y, rfl, fun _ => rfl, fun h => absurd rfl h⟩
  | cons n c ih =>
    obtain ⟨b', y', h1, h2, h3⟩ := ih (b := (b * 48271 + n) % p) (y := .int n)
    refine ⟨b', y', ?_, fun h => (by cases h), fun _ => ?_⟩
    · rw [List.map_cons]
      unfold forD
      have e : mixIn [st, .int t, .int f, .int p, .int b, .int n] = .nx [st, .int t, .int f, .int p, .int ((b * 48271 + n) % p), .int n] := by
        unfold mixIn
        simp [cMul, hp]
      show (match mixIn [st, .int t, .int f, .int p, .int b, .int n] with
        | .nx e2 => forD (tgName 5) mixIn (c.map .int) e2
        | .ct e2 => forD (tgName 5) mixIn (c.map .int) e2
        | .bk e2 => .nx e2
        | r => r) = _
      rw [e]
      exact h1
    · by_cases hc : c = []
      · rw [h2 hc]
        exact ⟨Int.emod_nonneg _ (by omega), Int.emod_lt_of_pos _ hp⟩
      · exact h3 hc
/-- what one prime gives -/
theorem mix_out {g c : List Int} {r t f p : Int} {x4 y : D} (hp : 0 < p) (hp2 : p < 2 ^ 31) (ht : 0 ≤ t) (ht2 : t ≤ 2 ^ 41) : ∃ f' b' y', mixOut [stD g c r t, .int t, .int f, .int p, x4, y] = .nx [stD g c r t, .int t, .int f', .int p, .int b', y'] := by
  obtain ⟨b', y', h1, h2, h3⟩ := mix_in (c := c) (st := stD g c r t) (t := t) (f := f) (p := p) (b := 130363 * t + p / 13) (y := y) hp
  have hb : b'.natAbs < 2 ^ 64 := by
    by_cases hc : c = []
    · rw [h2 hc]
      omega
    · have := h3 hc
      omega
  refine ⟨f * 2147483647 + b' ^ 5 % p, b', y', ?_⟩
  unfold mixOut
  simp [cMul, cDivW_ok, cPow, h1, hp, hb]
theorem mixed_ok {g c : List Int} {r t : Int} (ht : 0 ≤ t) (ht2 : t < 2 ^ 41) : ∃ m, f__law_mixed [stD g c r t] = .ok (.int m) [stD g c r (t + 1)] := by
  have go : ∀ (ps : List Int) (f : Int) (x3 x4 y : D), (∀ p ∈ ps, 0 < p ∧ p < 2 ^ 31) → ∃ f' x3' x4' y', forD (tgName 3) mixOut (ps.map .int) [stD g c r (t + 1), .int (t + 1), .int f, x3, x4, y] = .nx [stD g c r (t + 1), .int (t + 1), .int f', x3', x4', y'] := by
    intro ps
    induction ps with
    | nil => intro f x3 x4 y _; exact ⟨f, x3, x4, y, rfl⟩
    | cons p ps ih =>
      intro f x3 x4 y h
      obtain ⟨h1, h2⟩ := h p List.mem_cons_self
      obtain ⟨f1, b1, y1, e⟩ := mix_out (g := g) (c := c) (r := r) (t := t + 1) (f := f) (p := p) (x4 := x4) (y := y) h1 h2 (by omega) (by omega)
      obtain ⟨f2, x3', x4', y', e2⟩ := ih f1 (.int p) (.int b1) y1 fun q hq => h q (List.mem_cons_of_mem _ hq)
      refine ⟨f2, x3', x4', y', ?_⟩
      rw [List.map_cons]
      unfold forD
      show (match mixOut [stD g c r (t + 1), .int (t + 1), .int f, .int p, x4, y] with
        | .nx e2 => forD (tgName 3) mixOut (ps.map .int) e2
        | .ct e2 => forD (tgName 3) mixOut (ps.map .int) e2
        | .bk e2 => .nx e2
        | r => r) = _
      rw [e]
      exact e2
  obtain ⟨f', x3, x4, y, e⟩ := go [2147483629, 2147483587, 2147483579, 2147483563, 2147483549, 2147483543] 0 .un .un .un (by decide)
  refine ⟨f', ?_⟩
  rw [List.map_cons, List.map_cons, List.map_cons, List.map_cons, List.map_cons, List.map_cons, List.map_nil] at e
  unfold f__law_mixed b__law_mixed
  simp [sizeLine_eq, e]
/-- a state, with at most n turns -/
def IsSt (n : Nat) (d : D) : Prop := ∃ g c r t, d = stD g c r t ∧ 0 ≤ t ∧ t ≤ n ∧ g.length ≤ 63
theorem IsSt.mono {n m : Nat} {d : D} (h : IsSt n d) (k : n ≤ m) : IsSt m d := by
  obtain ⟨g, c, r, t, e, h1, h2, h3⟩ := h
  exact ⟨g, c, r, t, e, h1, by omega, h3⟩
theorem IsSt.fz {n : Nat} {d : D} (h : IsSt n d) : froz d = false ∧ isUn d = false ∧ isSl d = false := by
  obtain ⟨g, c, r, t, rfl, _⟩ := h
  exact ⟨rfl, rfl, rfl⟩
theorem take_ok {n : Nat} {st : D} {size : Int} (h : IsSt n st) (hn : n < 2 ^ 40) (h0 : 0 < size) (h1 : size < 2 ^ 64) : ∃ k st', IsSt (n + 1) st' ∧ 0 ≤ k ∧ k < size ∧ f__law_take [st, .int size] = .ok (.int k) [st', .int size] := by
  obtain ⟨g, c, r, t, rfl, ht, htn, hg⟩ := h
  have hd : ∀ i, cDivW i size = true := fun i => cDivW_ok h0 (by omega)
  by_cases hr : r = 0
  · subst hr
    cases g with
    | cons y g =>
      refine ⟨y % size, stD g c (y / size) t, ⟨g, c, _, t, rfl, ht, by omega, by simp at hg; omega⟩, Int.emod_nonneg _ (by omega), Int.emod_lt_of_pos _ h0, ?_⟩
      have hg2 : g.length < 4611686018427387904 := by simp at hg; omega
      unfold f__law_take b__law_take
      simp [h0, hd, hg2]
    | nil =>
      obtain ⟨m, hm⟩ := mixed_ok (g := []) (c := c) (r := 0) (t := t) ht (by omega)
      refine ⟨m % size, stD [] c (m / size) (t + 1), ⟨[], c, _, t + 1, rfl, by omega, by omega, by simp⟩, Int.emod_nonneg _ (by omega), Int.emod_lt_of_pos _ h0, ?_⟩
      unfold f__law_take b__law_take
      simp [h0, hd, hm]
  · refine ⟨r % size, stD g c (r / size) t, ⟨g, c, _, t, rfl, ht, by omega, hg⟩, Int.emod_nonneg _ (by omega), Int.emod_lt_of_pos _ h0, ?_⟩
    unfold f__law_take b__law_take
    simp [h0, hd, hr]
/-! ### _law_begun -/
theorem begun_comp {ms : List Int} : ∀ (ns acc : List Int), acc.length + ns.length < sizeLine →
    compD [2] (tgName 2) begT begE (ns.map .int) (acc.map .int) [.scr ms, .un, .un] =
      .ok ((acc ++ (ns.filter fun n => decide ((10 : Int) ^ 18 ≤ n)).map fun n => n - 10 ^ 18).map .int) [.scr ms, .un, .un]
  | [], acc, h => by simp [compD]
  | n :: ns, acc, h => by
    simp only [List.length_cons] at h
    have h2 : acc.length < sizeLine := by omega
    by_cases c : (10 : Int) ^ 18 ≤ n
    · have ih := begun_comp (ms := ms) ns (acc ++ [n - 10 ^ 18]) (by simp; omega)
      rw [List.map_append] at ih
      rw [List.map_cons]
      unfold compD
      have c' : (1000000000000000000 : Int) ≤ n := c
      simp [begT, begE, cPow, c', h2, wipeE] at ih ⊢
      exact ih
    · have ih := begun_comp (ms := ms) ns acc (by omega)
      rw [List.map_cons]
      unfold compD
      have c' : ¬ (1000000000000000000 : Int) ≤ n := c
      simp [begT, begE, cPow, c', h2, wipeE] at ih ⊢
      exact ih
theorem begun_ok {ns : List Int} (h : ns.length ≤ 63) : ∃ st, IsSt 0 st ∧ f__law_begun [.scr ns] = .ok st [.scr ns] := by
  have e := begun_comp (ms := ns) ns [] (by rw [sizeLine_eq]; simp; omega)
  refine ⟨stD ((ns.filter fun n => decide ((10 : Int) ^ 18 ≤ n)).map fun n => n - 10 ^ 18) ns 0 0, ⟨_, _, _, _, rfl, Int.le_refl _, Int.le_refl _, ?_⟩, ?_⟩
  · rw [List.length_map]
    exact Nat.le_trans (List.length_filter_le _ _) h
  · rw [List.map_nil, List.nil_append] at e
    unfold f__law_begun b__law_begun
    have nd : ([.inr "great", .inr "cells", .inr "rest", .inr "turn"] : List Key).Nodup := stK_nd
    simp [dLc, wipeE, e, nd]
    unfold stD stK
    rw [List.map_map]
/-! ### _law_pick -/
theorem atI_nat {α : Type} {xs : List α} {k : Int} (h0 : 0 ≤ k) (h1 : k < xs.length) : ∃ x, xs[k.toNat]? = some x ∧ atI xs k = some x ∧ x ∈ xs := by
  have hk : k.toNat < xs.length := by omega
  refine ⟨xs[k.toNat], by simp [hk], ?_, List.getElem_mem hk⟩
  unfold atI ixN
  rw [if_pos h0, if_pos h1]
  simp [hk]
theorem pick_ok {n : Nat} {st : D} {o : Bool} {xs : List D} (h : IsSt n st) (hn : n < 2 ^ 40) (h0 : xs ≠ []) (h1 : xs.length < 2 ^ 60) (hf : frozL xs = true) : ∃ x st', IsSt (n + 1) st' ∧ x ∈ xs ∧ froz x = true ∧ f__law_pick [st, .lst o xs] = .ok x [st', .lst o xs] := by
  have hl : 0 < xs.length := List.length_pos_iff.mpr h0
  obtain ⟨k, st', hs, hk0, hk1, e⟩ := take_ok (size := xs.length) h hn (by omega) (by omega)
  obtain ⟨x, hx1, hx2, hx3⟩ := atI_nat hk0 (by omega)
  obtain ⟨f1, f2, f3⟩ := h.fz
  obtain ⟨g1, g2, g3⟩ := hs.fz
  have fx := frozL_mem hf x hx3
  have sx : isSl x = false := by
    cases x with
    | sl i => simp at fx
    | _ => simp
  have ux : isUn x = false := by
    cases x with
    | un => simp at fx
    | _ => simp
  refine ⟨x, st', hs, hx3, fx, ?_⟩
  unfold f__law_pick b__law_pick
  cases o with
  | true => simp [f1, f2, f3, g1, g2, g3, e, hx2, fx, sx, ux, hf]
  | false => simp [f1, f2, f3, g1, g2, g3, e, hx2, fx, sx, ux, hf]
end DL
set_option Elab.async false
set_option linter.all false
set_option maxRecDepth 100000
set_option maxHeartbeats 4000000
/-! DLq: repr has an answer; equal data. -/
namespace DL
open PySem L2

mutual
def okR : D → Bool
  | .non => true
  | .bl _ => true
  | .int i => decide (i.natAbs.log2 < 1900)
  | .str x => x.cps.toList.all fun c => decide (c < 16 ^ 8)
  | .lst _ xs => okRL xs
  | .tup xs => okRL xs
  | _ => false
def okRL : List D → Bool
  | [] => true
  | d :: ds => okR d && okRL ds
end
mutual
def dep : D → Nat
  | .lst _ xs => depL xs + 1
  | .tup xs => depL xs + 1
  | _ => 0
def depL : List D → Nat
  | [] => 0
  | d :: ds => max (dep d) (depL ds)
end
mutual
def blk : D → Nat
  | .str x => x.cps.size
  | .lst _ xs => blkL xs
  | .tup xs => blkL xs
  | _ => 0
def blkL : List D → Nat
  | [] => 0
  | d :: ds => blk d + 1 + blkL ds
end
mutual
theorem okR_py : ∀ d : D, okR d = true → ∃ q, toPy d = some q ∧ q.showable = true ∧ q.hasDict = false ∧ q.depth = dep d ∧ q.bulk = blk d ∧ q.leavesShort 1901 = true
  | .non, _ => ⟨.none, by unfold toPy; rfl, by unfold PyData.showable; rfl, by unfold PyData.hasDict; rfl, by unfold PyData.depth dep; rfl, by unfold PyData.bulk blk; rfl, by unfold PyData.leavesShort; rfl⟩
  | .bl b, _ => ⟨.bool b, by unfold toPy; rfl, by unfold PyData.showable; rfl, by unfold PyData.hasDict; rfl, by unfold PyData.depth dep; rfl, by unfold PyData.bulk blk; rfl, by unfold PyData.leavesShort; rfl⟩
  | .int i, h => by
    unfold okR at h
    have h' := of_decide_eq_true h
    refine ⟨.int i, by unfold toPy; rfl, by unfold PyData.showable; exact decide_eq_true (by omega), by unfold PyData.hasDict; rfl, by unfold PyData.depth dep; rfl, by unfold PyData.bulk blk; rfl, ?_⟩
    unfold PyData.leavesShort PyData.shown
    have e := int_text_length_le (k := 1900) (by decide) h'
    exact decide_eq_true (by show (Str.ofString (toString i)).length ≤ 1901; rw [ofString_length]; exact e)
  | .str x, h => by
    unfold okR at h
    exact ⟨.str x, by unfold toPy; rfl, by unfold PyData.showable; rfl, by unfold PyData.hasDict; rfl, by unfold PyData.depth dep; rfl, by unfold PyData.bulk blk; rfl, by unfold PyData.leavesShort; exact h⟩
  | .lst o xs, h => by
    unfold okR at h
    obtain ⟨qs, h1, h2, h3, h4, h5, h6⟩ := okR_pyL xs h
    exact ⟨.list qs, by unfold toPy; rw [h1]; rfl, by unfold PyData.showable; exact h2, by unfold PyData.hasDict; exact h3, by unfold PyData.depth dep; rw [h4], by unfold PyData.bulk blk; exact h5, by unfold PyData.leavesShort; exact h6⟩
  | .tup xs, h => by
    unfold okR at h
    obtain ⟨qs, h1, h2, h3, h4, h5, h6⟩ := okR_pyL xs h
    exact ⟨.tuple qs, by unfold toPy; rw [h1]; rfl, by unfold PyData.showable; exact h2, by unfold PyData.hasDict; exact h3, by unfold PyData.depth dep; rw [h4], by unfold PyData.bulk blk; exact h5, by unfold PyData.leavesShort; exact h6⟩
  | .un, h => by unfold okR at h; cases h
  | .sl _, h => by unfold okR at h; cases h
  | .dct _ _ _, h => by unfold okR at h; cases h
  | .obj _ _ _ _, h => by unfold okR at h; cases h
  | .exc _ _ _, h => by unfold okR at h; cases h
  | .scr _, h => by unfold okR at h; cases h
theorem okR_pyL : ∀ ds : List D, okRL ds = true → ∃ qs, toPyL ds = some qs ∧ PyData.showableAll qs = true ∧ PyData.hasDictAll qs = false ∧ PyData.depthAll qs = depL ds ∧ PyData.bulkAll qs = blkL ds ∧ PyData.leavesShortAll 1901 qs = true
  | [], _ => ⟨[], by unfold toPyL; rfl, by unfold PyData.showableAll; rfl, by unfold PyData.hasDictAll; rfl, by unfold PyData.depthAll depL; rfl, by unfold PyData.bulkAll blkL; rfl, by unfold PyData.leavesShortAll; rfl⟩
  | d :: ds, h => by
    unfold okRL at h
    rw [Bool.and_eq_true] at h
    obtain ⟨q, h1, h2, h3, h4, h5, h6⟩ := okR_py d h.1
    obtain ⟨qs, k1, k2, k3, k4, k5, k6⟩ := okR_pyL ds h.2
    refine ⟨q :: qs, ?_, ?_, ?_, ?_, ?_, ?_⟩
    · unfold toPyL; rw [h1, k1]; rfl
    · unfold PyData.showableAll; rw [h2, k2]; rfl
    · unfold PyData.hasDictAll; rw [h3, k3]; rfl
    · unfold PyData.depthAll depL; rw [h4, k4]
    · unfold PyData.bulkAll blkL; rw [h5, k5]
    · unfold PyData.leavesShortAll; rw [h6, k6]; rfl
end
theorem repr_ok {d : D} (h : okR d = true) (h1 : dep d ≤ 64) (h2 : blk d ≤ 8000) : ∃ t, fRepr [d] = some (.str t) := by
  obtain ⟨q, e1, e2, e3, e4, e5, e6⟩ := okR_py d h
  refine ⟨q.shown, ?_⟩
  have hb := PyData.shown_le_bulk 1901 (by decide) q e6
  have hl : q.shown.length ≤ sizeLine := by
    rw [sizeLine_eq]
    rw [e5] at hb
    have : (1901 + 2) * blk d ≤ (1901 + 2) * 8000 := Nat.mul_le_mul_left _ h2
    omega
  unfold fRepr
  dsimp only
  rw [e1, Option.bind_some, e2, e3, e4, decide_eq_true h1, decide_eq_true hl]
  rfl
theorem log2_small {i : Int} (h : i.natAbs < 2 ^ 1000) : decide (i.natAbs.log2 < 1900) = true := by
  apply decide_eq_true
  by_cases h0 : i.natAbs = 0
  · rw [h0]; decide
  · have : i.natAbs.log2 < 1000 := (Nat.log2_lt h0).mpr h
    omega
/-- two tuples of two ints -/
theorem fEq_t2 {a b c d : Int} : fEqA (.tup [.int a, .int b]) (.tup [.int c, .int d]) = some (.bl ((a == c) && ((b == d) && true))) := by
  rw [fEqA_tup]
  have e : toPy (.tup [.int a, .int b]) = some (.tuple [.int a, .int b]) := rfl
  have e2 : toPy (.tup [.int c, .int d]) = some (.tuple [.int c, .int d]) := rfl
  unfold fEq eqP
  rw [e, e2]
  rfl
theorem fNe_t2 {a b c d : Int} : fNeA (.tup [.int a, .int b]) (.tup [.int c, .int d]) = some (.bl (!((a == c) && ((b == d) && true)))) := by
  rw [fNeA_tup]
  have e : toPy (.tup [.int a, .int b]) = some (.tuple [.int a, .int b]) := rfl
  have e2 : toPy (.tup [.int c, .int d]) = some (.tuple [.int c, .int d]) := rfl
  unfold fNe eqP
  rw [e, e2]
  rfl
@[simp] theorem fSumA_t2 {a b : Int} : fSumA [.tup [.int a, .int b]] = some (.int (a + b)) := by
  show (asInts [.int a, .int b]).map (fun ns => D.int ns.sum) = _
  simp
end DL
set_option Elab.async false
set_option linter.all false
set_option maxRecDepth 100000
set_option maxHeartbeats 4000000
/-! DLs: enumerate; stores into lists as targets; equal data are equal. -/
namespace DL
open PySem L2

/-! ### enumerate(list) -/
def enumD : Nat → List D → List D
  | _, [] => []
  | k, d :: ds => .tup [.int k, d] :: enumD (k + 1) ds
theorem enumD_len : ∀ (k : Nat) (ds : List D), (enumD k ds).length = ds.length
  | _, [] => rfl
  | k, d :: ds => by unfold enumD; rw [List.length_cons, List.length_cons, enumD_len]
theorem enumD_get : ∀ (k : Nat) (ds : List D) (i : Nat) (x : D), (enumD k ds)[i]? = some x → ∃ d, ds[i]? = some d ∧ x = .tup [.int ((k + i : Nat) : Int), d]
  | _, [], i, x, h => by unfold enumD at h; simp at h
  | k, d :: ds, 0, x, h => by unfold enumD at h; cases h; exact ⟨d, rfl, rfl⟩
  | k, d :: ds, i + 1, x, h => by
    unfold enumD at h
    rw [List.getElem?_cons_succ] at h
    obtain ⟨y, h1, h2⟩ := enumD_get (k + 1) ds i x h
    exact ⟨y, by rw [List.getElem?_cons_succ]; exact h1, by rw [h2, show k + 1 + i = k + (i + 1) by omega]⟩
theorem enumD_mem : ∀ (k : Nat) (ds : List D) (x : D), x ∈ enumD k ds → ∃ i d, d ∈ ds ∧ x = .tup [.int i, d]
  | _, [], x, h => by unfold enumD at h; cases h
  | k, d :: ds, x, h => by
    unfold enumD at h
    rcases List.mem_cons.mp h with h | h
    · exact ⟨_, d, List.mem_cons_self, h⟩
    · obtain ⟨i, y, h1, h2⟩ := enumD_mem (k + 1) ds x h
      exact ⟨i, y, List.mem_cons_of_mem _ h1, h2⟩
@[simp] def itEnum (a : Dn D) : Dn (List D × List D) := (dU a).bind fun d env => match d with
  | .lst o xs => if frozL (fzL xs) then .ok ([.lst false (fzL xs)], enumD 0 (fzL xs)) env else .no
  | _ => .no
theorem itok_enum {K : PySem.W.Frag} {mg : Str → Option Value} {a : Addr} {xs : List D} (hf : frozL xs = true) : ItOK K mg (Ite K a) [.lst false xs] [.ref a] (enumD 0 xs) := by
  intro B σ H F env ts ms vs ns k hm R
  obtain ⟨S, rd⟩ := (R.drop hm).last (d := .lst false xs) (fun z => nomatch z)
  have rd' : Rp K mg F H (.lst false xs) (.ref a) S := rd
  unfold Rp at rd'
  obtain ⟨a', ws, S', e, rl, ho⟩ := rd'
  cases e
  rw [if_neg Bool.false_ne_true] at ho
  obtain ⟨sq, rfl, _⟩ := ho
  have sqH : SqL K H a ws := Or.inl (Or.inl (R.ex _ _ sq))
  refine ⟨fun x hx => ?_, fun hk => ⟨ws, sqH, by rw [← rl.len]; rw [enumD_len] at hk; exact hk⟩⟩
  obtain ⟨d, hd, rfl⟩ := enumD_get 0 xs k x hx
  obtain ⟨v, ev, rp⟩ := rl.get hd
  refine ⟨⟨ws, v, sqH, ev⟩, fun u H1 ⟨T, y, e1, hT, e2, yy⟩ => ?_⟩
  subst e1 e2
  have e3 := yy ws sqH
  rw [ev] at e3
  cases e3
  obtain ⟨ow, r⟩ := R
  have r2 := r.newF (o := .tup [.int (k : Nat), v]) hT
  have ex2 : Ex F (upd F T (.tup [.int (k : Nat), v])) := Ex.new (r.ex.none hT)
  refine ⟨_, RE.push0 ⟨ow, r2⟩ (Tm.of ?_)⟩
  unfold Rp
  refine ⟨T, [.int (k : Nat), v], rfl, ?_, Or.inl (Or.inl upd_same)⟩
  have := RpL.cons (K := K) (mg := mg) (F := upd F T (.tup [.int (k : Nat), v])) (H := upd H T (.tup [.int (k : Nat), v])) (S1 := []) (S2 := []) (rp_int (i := ((0 + k : Nat) : Int))) (RpL.one (rp.stay ex2 fun a ha => absurd ha List.not_mem_nil))
  rw [Nat.zero_add] at this ⊢
  exact this
theorem gi_enum {X : Cx} {W : WX} {e : Expr} {dn : Dn D} {p pos tpos : Pos} {elts : List Expr} {kk : Nat} (hm : X.mg "enumerate" = none) (h : GEU X W e (dU dn)) (hg : Gl X "enumerate" := by rfl) (hs : starEach [e] X.env = [(false, eval e X.env)] := by rfl)
    (hs2 : starEach [e] X.env = (false, eval e X.env) :: starEach [] X.env := by rfl) : GI X W (.Tuple elts kk tpos) (.Call (.Name "enumerate" p) [e] [] pos) (itEnum dn) := by
  refine PI.imp (pi_enum hg hm (gau_cons h gau_nil hs2) hs) fun σ H R ⟨B, F, env, ts, vs, r, q⟩ => ?_
  refine ⟨B, F, env, ts, vs, r, ?_⟩
  have q' := ResP.bind q
  have e0 : dCons (dU dn) dNil env = (dU dn env).bind fun d e => .ok [d] e := rfl
  rw [e0]
  cases e1 : dU dn env with
  | no => rw [e1] at q'; exact q'.elim
  | er c ns xs e2 => rw [e1] at q'; exact q'
  | ok d env1 =>
    rw [e1] at q'
    intro ws H1 F1 hl hd R1
    have hd := hd d List.mem_cons_self
    match ws, hl with
    | [v], _ =>
      cases d with
      | lst o xs =>
        have q2 : ResP (if frozL (fzL xs) = true then Res.ok ([D.lst false (fzL xs)], enumD 0 (fzL xs)) env1 else .no) _ _ := q'
        cases hf : frozL (fzL xs) with
        | false => rw [hf, if_neg Bool.false_ne_true] at q2; exact q2.elim
        | true =>
          rw [hf, if_pos rfl] at q2
          obtain ⟨F2, R2, rp⟩ := R1.fzLast hd
          have rp' := rp
          unfold fz Rp at rp'
          obtain ⟨a, us, S', rfl, rl, ho⟩ := rp'
          rw [if_neg Bool.false_ne_true] at ho
          have fz1 : frozL [D.lst false (fzL xs)] = true := by unfold frozL froz; rw [hf]; rfl
          have fz2 : noAl (enumD 0 (fzL xs)) := fun x hx i z => by
            obtain ⟨_, _, _, e⟩ := enumD_mem 0 _ x hx
            rw [e] at z; cases z
          exact ⟨a, us, rfl, Or.inl (Or.inl (R2.ex _ _ ho.1)), q2 _ [.ref a] H1 F2 rfl (noAl_froz fz1) fz2 R2 (itok_enum hf)⟩
      | _ => exact q'.elim

/-! ### o[i] as a target -/
def tgSub (o k : Dn D) : D → List D → Option (List D) := fun u env => match o env with
  | .ok (.sl i) e1 => (match k e1 with
    | .ok y e2 => (setL (e2.getD i .un) (rs e2 y) u).map fun d => e2.set i d
    | _ => none)
  | _ => none
theorem gg_sub {X : Cx} {P : List Nat} {o i : Expr} {do' dk : Dn D} {pos' : Pos} (ho : GE X WF o do') (hi : GE X WF i dk)
    (has : ∀ v, assign (.Subscript o i pos') X.env v = (do
      let ov ← holding [v] (eval o X.env)
      let iv ← holding [v, ov] (eval i X.env)
      standAt pos'
      holding [v, ov, iv] (setItem ov iv v)
      release [v, ov, iv] []) := by intro _; rfl) : GG X P [] (.Subscript o i pos') (tgSub do' dk) :=
  PG.imp (pg_sub ho hi set_list has) fun v σ H Q ⟨B, F, env, ts, vs, d, e1, hpp, na, R, hd, eg, q⟩ => by
    unfold tgSub at eg
    cases h1 : do' env with
    | no => rw [h1] at eg; cases eg
    | er _ _ _ _ => rw [h1] at eg; cases eg
    | ok x e2 =>
      rw [h1] at eg
      cases x with
      | sl j =>
        dsimp only at eg
        cases h2 : dk e2 with
        | no => rw [h2] at eg; cases eg
        | er _ _ _ _ => rw [h2] at eg; cases eg
        | ok y e3 =>
          rw [h2] at eg
          obtain ⟨d', hd', rfl⟩ := Option.map_eq_some_iff.mp eg
          refine ⟨B, F, env, ts ++ [d], vs ++ [v], R, ?_⟩
          rw [h1]
          intro w H2 F2 R2
          refine ⟨B, F2, e2, _, _, R2, ?_⟩
          rw [h2]
          intro z H3 F3 R3
          obtain ⟨S, ry⟩ := R3.last (fun c => by
            rw [c] at hd'
            unfold DL.setL at hd'
            split at hd'
            · rename_i h; cases h
            · cases hd')
          obtain ⟨hj, R5⟩ := RE.alias (us := []) (ws := []) (R3.drop rfl) rfl
          rw [List.append_nil, List.append_nil] at R5
          exact R5.setL hd hj ry hd' fun H' R6 => q σ H' F3 ⟨rfl, fun _ _ => rfl⟩ R6
      | _ => cases eg

/-! ### data are equal to themselves -/
mutual
def okE : D → Bool
  | .non => true
  | .bl _ => true
  | .int _ => true
  | .str x => PyData.strOk x
  | .lst _ xs => okEL xs
  | .tup xs => okEL xs
  | _ => false
def okEL : List D → Bool
  | [] => true
  | d :: ds => okE d && okEL ds
end
mutual
/-- the data behind two trees that differ in ownership alone -/
theorem eqv_self : ∀ q : PyData, q.canLay0 = true → PyData.eqv q q = true
  | .none, _ => by unfold PyData.eqv; rfl
  | .bool b, _ => by unfold PyData.eqv; simp
  | .int i, _ => by unfold PyData.eqv; simp
  | .str x, _ => by unfold PyData.eqv; simp
  | .list xs, h => by unfold PyData.canLay0 at h; unfold PyData.eqv; exact eqv_selfL xs h
  | .tuple xs, h => by unfold PyData.canLay0 at h; unfold PyData.eqv; exact eqv_selfL xs h
  | .dict _, h => by unfold PyData.canLay0 at h; cases h
theorem eqv_selfL : ∀ qs : List PyData, PyData.canLayAll0 qs = true → PyData.eqvAll qs qs = true
  | [], _ => by unfold PyData.eqvAll; rfl
  | q :: qs, h => by
    unfold PyData.canLayAll0 at h
    rw [Bool.and_eq_true] at h
    unfold PyData.eqvAll
    rw [eqv_self q h.1, eqv_selfL qs h.2]
    rfl
end
mutual
theorem okE_py : ∀ d : D, okE d = true → ∃ q, toPy d = some q ∧ q.canLay0 = true ∧ q.depth = dep d
  | .non, _ => ⟨.none, by unfold toPy; rfl, by unfold PyData.canLay0; rfl, by unfold PyData.depth dep; rfl⟩
  | .bl b, _ => ⟨.bool b, by unfold toPy; rfl, by unfold PyData.canLay0; rfl, by unfold PyData.depth dep; rfl⟩
  | .int i, _ => ⟨.int i, by unfold toPy; rfl, by unfold PyData.canLay0; rfl, by unfold PyData.depth dep; rfl⟩
  | .str x, h => ⟨.str x, by unfold toPy; rfl, by unfold PyData.canLay0; unfold okE at h; exact h, by unfold PyData.depth dep; rfl⟩
  | .lst o xs, h => by
    unfold okE at h
    obtain ⟨qs, h1, h2, h3⟩ := okE_pyL xs h
    exact ⟨.list qs, by unfold toPy; rw [h1]; rfl, by unfold PyData.canLay0; exact h2, by unfold PyData.depth dep; rw [h3]⟩
  | .tup xs, h => by
    unfold okE at h
    obtain ⟨qs, h1, h2, h3⟩ := okE_pyL xs h
    exact ⟨.tuple qs, by unfold toPy; rw [h1]; rfl, by unfold PyData.canLay0; exact h2, by unfold PyData.depth dep; rw [h3]⟩
  | .un, h => by unfold okE at h; cases h
  | .sl _, h => by unfold okE at h; cases h
  | .dct _ _ _, h => by unfold okE at h; cases h
  | .obj _ _ _ _, h => by unfold okE at h; cases h
  | .exc _ _ _, h => by unfold okE at h; cases h
  | .scr _, h => by unfold okE at h; cases h
theorem okE_pyL : ∀ ds : List D, okEL ds = true → ∃ qs, toPyL ds = some qs ∧ PyData.canLayAll0 qs = true ∧ PyData.depthAll qs = depL ds
  | [], _ => ⟨[], by unfold toPyL; rfl, by unfold PyData.canLayAll0; rfl, by unfold PyData.depthAll depL; rfl⟩
  | d :: ds, h => by
    unfold okEL at h
    rw [Bool.and_eq_true] at h
    obtain ⟨q, h1, h2, h3⟩ := okE_py d h.1
    obtain ⟨qs, k1, k2, k3⟩ := okE_pyL ds h.2
    refine ⟨q :: qs, ?_, ?_, ?_⟩
    · unfold toPyL; rw [h1, k1]; rfl
    · unfold PyData.canLayAll0; rw [h2, k2]; rfl
    · unfold PyData.depthAll depL; rw [h3, k3]
end
/-- the same data -/
theorem eqP_same {x y : D} (h : okE x = true) (h2 : dep x ≤ 64) (e : toPy x = toPy y) : eqP x y = some true := by
  obtain ⟨q, h1, h3, h4⟩ := okE_py x h
  have hs : SeqAt.shaped q = true := by
    unfold SeqAt.shaped
    rw [h3, h4, decide_eq_true h2]
    rfl
  unfold eqP
  rw [← e, h1, Option.bind_some, Option.bind_some, hs, eqv_self q h3]
  rfl
theorem fEqA_same {x y : D} (h : okE x = true) (h2 : dep x ≤ 64) (e : toPy x = toPy y) : fEqA x y = some (.bl true) := by
  unfold fEqA fOr fEqS
  cases x with
  | str i =>
    cases y with
    | str j =>
      unfold toPy at e
      cases e
      simp
    | _ => dsimp only; unfold fEq; rw [eqP_same h h2 e]; rfl
  | _ => dsimp only; unfold fEq; rw [eqP_same h h2 e]; rfl
theorem fNeA_same {x y : D} (h : okE x = true) (h2 : dep x ≤ 64) (e : toPy x = toPy y) : fNeA x y = some (.bl false) := by
  unfold fNeA fOr fNeS
  cases x with
  | str i =>
    cases y with
    | str j =>
      unfold toPy at e
      cases e
      simp
    | _ => dsimp only; unfold fNe; rw [eqP_same h h2 e]; rfl
  | _ => dsimp only; unfold fNe; rw [eqP_same h h2 e]; rfl
end DL
set_option Elab.async false
set_option linter.all false
set_option maxRecDepth 100000
set_option maxHeartbeats 4000000
/-! DLt: small defs of the program that many laws reach, and what they answer. -/
namespace DL
open PySem L2

def b_is_integer : Sn := nRet (dB (dAnd (dTest (dUn (fIsi "int") (dVar 0))) (dNot (dTest (dUn (fIsi "bool") (dVar 0))))))
def f_is_integer : List D → FR := fdOf [0] 1 b_is_integer
def b_is_between : Sn := nRet (dB (dAnd (dTest (dFn 1 f_is_integer [] (dCons (dVar 0) (dNil)))) (dChain fLe fLe (dVar 1) (dVar 0) (dVar 2))))
def f_is_between : List D → FR := fdOf [0, 1, 2] 3 b_is_between
def b_passage : Sn := nSeq (nPar 4 5 (dCons (dU (dCall fMin2 (dCons (dOp fSub (dVar 0) (dVar 1)) (dCons (dVar 3) (dNil))))) (dCons (dU (dCall fMin2 (dCons (dVar 1) (dCons (dOp fSub (dVar 2) (dVar 3)) (dNil))))) (dNil))))
  (nRet (dTup (dCons (dU (dOp fAdd (dOp fSub (dVar 3) (dVar 4)) (dVar 5))) (dCons (dU (dOp fSub (dOp fAdd (dVar 1) (dVar 4)) (dVar 5))) (dNil)))))
def f_passage : List D → FR := fdOf [0, 1, 2, 3] 6 b_passage
/-- scalars and small things: what the law draws -/
def sm (d : D) : Bool := froz d && (tyD d).isSome
theorem sm_un {d : D} (h : sm d = true) : froz d = true ∧ isUn d = false ∧ isSl d = false ∧ ∃ t, tyD d = some t := by
  unfold sm at h
  cases d <;> simp at h ⊢ <;> simp [*]
def isI : D → Bool
  | .int _ => true
  | _ => false
def bet (lo hi : Int) : D → Bool
  | .int v => decide (lo ≤ v) && decide (v ≤ hi)
  | _ => false
theorem isI_kit {d : D} (h : sm d = true) : ∃ t, tyD d = some t ∧ ∃ b1 b2, kitT t "int" = some b1 ∧ kitT t "bool" = some b2 ∧ (b1 && !b2) = isI d ∧ (!b1 || b2) = !isI d := by
  unfold sm at h
  cases d <;> simp at h <;> simp [kitT, isI]
theorem integer_ok {d : D} (h : sm d = true) : f_is_integer [d] = .ok (.bl (isI d)) [d] := by
  obtain ⟨h1, h2, h3, _⟩ := sm_un h
  obtain ⟨t, e1, b1, b2, e2, e3, e4, _⟩ := isI_kit h
  unfold f_is_integer b_is_integer
  rw [← e4]
  cases b1 <;> cases b2 <;> simp [h1, h2, h3, e1, e2, e3]
theorem between_ok {d : D} {lo hi : Int} (h : sm d = true) : f_is_between [d, .int lo, .int hi] = .ok (.bl (bet lo hi d)) [d, .int lo, .int hi] := by
  have e := integer_ok h
  obtain ⟨h1, h2, h3, _⟩ := sm_un h
  unfold f_is_between b_is_between
  cases d with
  | int v =>
    by_cases c : lo ≤ v
    · simp [e, isI, bet, c]
    · simp [e, isI, bet, c]
  | _ => simp [e, isI, bet, h1, h2, h3]
def pas (a b c d : Int) : D := .tup [.int (d - (if d < a - b then d else a - b) + (if c - d < b then c - d else b)), .int (b + (if d < a - b then d else a - b) - (if c - d < b then c - d else b))]
theorem passage_ok {a b c d : Int} : f_passage [.int a, .int b, .int c, .int d] = .ok (pas a b c d) [.int a, .int b, .int c, .int d] := by
  unfold f_passage b_passage pas
  simp [sizeLine_eq]
theorem bet_inv {lo hi : Int} {d : D} (h : bet lo hi d = true) : ∃ v, d = .int v ∧ lo ≤ v ∧ v ≤ hi := by
  cases d with
  | int v =>
    unfold bet at h
    rw [Bool.and_eq_true, decide_eq_true_eq, decide_eq_true_eq] at h
    exact ⟨v, rfl, h⟩
  | _ => cases h
theorem sm_int {i : Int} : sm (.int i) = true := rfl
end DL
set_option Elab.async false
set_option linter.all false
set_option maxRecDepth 100000
set_option maxHeartbeats 4000000
/-! DLu: all, any; in, not in; d.get(k, x); abs. -/
namespace DL
open PySem L2

/-! ### all, any of a list of bools -/
def asBls : List D → Option (List Bool)
  | [] => some []
  | .bl b :: ds => (asBls ds).map (b :: ·)
  | _ => none
theorem asBls_inv : ∀ {ds : List D} {bs : List Bool}, asBls ds = some bs → ds = bs.map .bl
  | [], bs, h => by cases h; rfl
  | d :: ds, bs, h => by
    cases d with
    | bl b =>
      unfold asBls at h
      obtain ⟨cs, h1, rfl⟩ := Option.map_eq_some_iff.mp h
      rw [asBls_inv h1]
      rfl
    | _ => cases h
theorem asBls_map : ∀ bs : List Bool, asBls (bs.map .bl) = some bs
  | [] => rfl
  | b :: bs => by
    rw [List.map_cons]
    unfold asBls
    rw [asBls_map bs]
    rfl
theorem RpL.ofBls {K : PySem.W.Frag} {mg : Str → Option Value} {F H : Hp} : ∀ {bs : List Bool} {vs : List V} {S : List Addr}, RpL K mg F H (bs.map .bl) vs S → vs = bs.map V.bl
  | [], vs, S, h => by unfold RpL at h; exact h.1
  | b :: bs, vs, S, h => by
    have h' : RpL K mg F H (.bl b :: bs.map .bl) vs S := h
    unfold RpL at h'
    obtain ⟨v, r, S1, S2, rfl, rfl, h1, h2⟩ := h'
    rw [RpL.ofBls h2, rp_bl_inv h1]
    rfl
def fAll : List D → Option D
  | [.lst _ xs] => (asBls xs).map fun bs => .bl (bs.all id)
  | _ => none
def fAny : List D → Option D
  | [.lst _ xs] => (asBls xs).map fun bs => .bl (bs.any id)
  | _ => none
section
variable {K : PySem.W.Frag} {mg : Str → Option Value}
theorem cs_all : CaS K mg (rAll K) fAll := by
  intro B σ H F env ts vs dx vx d Q R h e k
  match dx, e with
  | [.lst o xs], e =>
    obtain ⟨bs, hb, rfl⟩ := Option.map_eq_some_iff.mp e
    obtain ⟨v, S, rfl, rp⟩ := h.one
    rw [asBls_inv hb] at rp
    obtain ⟨a, us, S', rfl, hl, hs⟩ := lst_inv rp R.ex
    rw [hl.ofBls] at hs
    exact ⟨a, bs, rfl, Or.inl (Or.inl hs), k _ H F (R.push0 (Tm.of rp_bl))⟩
theorem cs_any : CaS K mg (rAny K) fAny := by
  intro B σ H F env ts vs dx vx d Q R h e k
  match dx, e with
  | [.lst o xs], e =>
    obtain ⟨bs, hb, rfl⟩ := Option.map_eq_some_iff.mp e
    obtain ⟨v, S, rfl, rp⟩ := h.one
    rw [asBls_inv hb] at rp
    obtain ⟨a, us, S', rfl, hl, hs⟩ := lst_inv rp R.ex
    rw [hl.ofBls] at hs
    exact ⟨a, bs, rfl, Or.inl (Or.inl hs), k _ H F (R.push0 (Tm.of rp_bl))⟩
end

/-! ### in, not in: ints in a list or a tuple of ints; keys in a dict -/
theorem inV_ints {i : Int} : ∀ ns : List Int, inV (.int i) (ns.map V.int) = ns.any fun n => n == i
  | [] => rfl
  | n :: ns => by
    have := inV_ints (i := i) ns
    unfold inV at this ⊢
    rw [List.map_cons, List.any_cons, List.any_cons, this]
    rfl
theorem flat_ints : ∀ ns : List Int, (ns.map V.int).all flatV = true
  | [] => rfl
  | n :: ns => by rw [List.map_cons, List.all_cons, flat_ints ns]; rfl
/-- is x in y -/
def inD (x y : D) : Option Bool := match y with
  | .lst _ xs => (match x with
    | .int i => (asInts xs).map fun ns => ns.any fun n => n == i
    | _ => none)
  | .tup xs => (match x with
    | .int i => (asInts xs).map fun ns => ns.any fun n => n == i
    | _ => none)
  | .dct _ ks _ => (asKey x).map fun k => (kIx ks k).isSome
  | _ => none
def fIn (x y : D) : Option D := (inD x y).map .bl
def fNotIn (x y : D) : Option D := (inD x y).map fun b => .bl (!b)
def rDIn (neg : Bool) : R2 := fun x y H Q => ∃ a o, y = .ref a ∧ DGet H a x o ∧ Q (.bl (if neg then !o.isSome else o.isSome)) H
theorem op_din {X : Cx} (hu : X.A.units + 1 < cLine) : OpR X (compareOp .In) (rDIn false) := by
  intro pins s σ H x y v u Q I rx ry h
  obtain ⟨a, o, rfl, g, q⟩ := h
  cases (show u = Value.ref a from ry)
  exact d_in hu I g rx fun s3 I3 => ⟨.bl o.isSome, H, I3, rfl, q⟩
theorem op_dnotin {X : Cx} (hu : X.A.units + 1 < cLine) : OpR X (compareOp .NotIn) (rDIn true) := by
  intro pins s σ H x y v u Q I rx ry h
  obtain ⟨a, o, rfl, g, q⟩ := h
  cases (show u = Value.ref a from ry)
  exact d_notIn hu I g rx fun s3 I3 => ⟨.bl (!o.isSome), H, I3, rfl, q⟩
def rInA (K : PySem.W.Frag) (neg : Bool) : R2 := fun x y H Q => rIn K neg x y H Q ∨ rDIn neg x y H Q
theorem op_inA {X : Cx} (hu : X.A.units + 1 < cLine) : OpR X (compareOp .In) (rInA X.K false) := OpR.or op_in_seq (op_din hu)
theorem op_notInA {X : Cx} (hu : X.A.units + 1 < cLine) : OpR X (compareOp .NotIn) (rInA X.K true) := OpR.or op_notIn_seq (op_dnotin hu)
section
variable {K : PySem.W.Frag} {mg : Str → Option Value}
theorem os_inG {neg : Bool} {B : Bd} {σ : L2.St} {H F : Hp} {env ts : List D} {vs : List V} {dx dy : D} {vx vy : V} {Sx Sy : List Addr} {b : Bool} {Q : VK} (R : RE K mg B σ H F env ts vs) (h1 : Rp K mg F H dx vx Sx) (h2 : Rp K mg F H dy vy Sy) (e : inD dx dy = some b)
    (k : Q (.bl (if neg then !b else b)) H) : rInA K neg vx vy H Q := by
  have ex := R.ex
  cases dy with
  | lst o xs =>
    cases dx with
    | int i =>
      obtain ⟨ns, hn, rfl⟩ := Option.map_eq_some_iff.mp (show (asInts xs).map _ = some b from e)
      unfold Rp at h1
      obtain ⟨rfl, _⟩ := h1
      rw [asInts_inv hn] at h2
      obtain ⟨a, us, S', rfl, hl, hs⟩ := lst_inv h2 ex
      rw [hl.ofInts] at hs
      exact .inl ⟨a, _, rfl, .inl (Or.inl (Or.inl hs)), rfl, flat_ints ns, by rw [inV_ints]; exact k⟩
    | _ => cases e
  | tup xs =>
    cases dx with
    | int i =>
      obtain ⟨ns, hn, rfl⟩ := Option.map_eq_some_iff.mp (show (asInts xs).map _ = some b from e)
      unfold Rp at h1
      obtain ⟨rfl, _⟩ := h1
      rw [asInts_inv hn] at h2
      unfold Rp at h2
      obtain ⟨a, us, rfl, hl, hs⟩ := h2
      rw [hl.ofInts] at hs
      exact .inl ⟨a, _, rfl, .inr (ex.sqT hs), rfl, flat_ints ns, by rw [inV_ints]; exact k⟩
    | _ => cases e
  | dct o ks xs =>
    obtain ⟨ky, hk, rfl⟩ := Option.map_eq_some_iff.mp (show (asKey dx).map _ = some b from e)
    have ey := asKey_rp h1 hk
    subst ey
    obtain ⟨a, us, S', rfl, hkl, hl, hr⟩ := dct_inv h2 ex
    have le := hl.len
    refine .inr ⟨a, valV (ks.zip us) ky, rfl, .inl ⟨_, ky, hr, rfl, rfl⟩, ?_⟩
    have e2 : (valV (ks.zip us) ky).isSome = (kIx ks ky).isSome := by
      rw [valV_kIx (by omega)]
      cases q : kIx ks ky with
      | none => rfl
      | some j =>
        have := kIx_lt q
        have hj : j < us.length := by omega
        simp [hj]
    rw [e2]
    exact k
  | _ => cases e
theorem os_in : OpS K mg (rInA K false) fIn := by
  intro B σ H F env ts vs dx dy vx vy Sx Sy d Q R h1 h2 e k
  obtain ⟨b, hb, rfl⟩ := Option.map_eq_some_iff.mp e
  exact os_inG R h1 h2 hb (k _ H F (R.push0 (Tm.of rp_bl)))
theorem os_notIn : OpS K mg (rInA K true) fNotIn := by
  intro B σ H F env ts vs dx dy vx vy Sx Sy d Q R h1 h2 e k
  obtain ⟨b, hb, rfl⟩ := Option.map_eq_some_iff.mp e
  exact os_inG R h1 h2 hb (k _ H F (R.push0 (Tm.of rp_bl)))
end
theorem fIn_un1 (y : D) : fIn .un y = none := by
  unfold fIn inD
  cases y <;> rfl
theorem fIn_un2 (x : D) : fIn x .un = none := rfl
theorem fNotIn_un1 (y : D) : fNotIn .un y = none := by
  unfold fNotIn inD
  cases y <;> rfl
theorem fNotIn_un2 (x : D) : fNotIn x .un = none := rfl

/-! ### abs -/
def fAbs : List D → Option D
  | [.int i] => some (.int (if i < 0 then -i else i))
  | _ => none
theorem cs_abs {K : PySem.W.Frag} {mg : Str → Option Value} : CaS K mg (fun xs H Q => ∃ i, xs = [.int i] ∧ Q (.int (if i < 0 then -i else i)) H) fAbs := by
  intro B σ H F env ts vs dx vx d Q R h e k
  match dx, e with
  | [.int i], e =>
    cases e
    exact ⟨i, h.int1, k _ H F (R.push0 (Tm.of rp_int))⟩
section
variable {X : Cx} {W : WX} {e : Expr} {p pos : Pos} {da : Dn (List D)}
theorem ge_all (z : X.mg "all" = none) (hc : X.calm = true) (ha : GA X W [e] da) (hg : Gl X "all" := by rfl) (he : starEach [e] X.env = (false, eval e X.env) :: starEach [] X.env := by rfl) (hpl : (backTo pos (starEach [] X.env)).any (·.1) = false := by rfl) : GE X W (.Call (.Name "all" p) [e] [] pos) (dCall fAll da) :=
  ge_callB (cr_all hc) cs_all z rfl ha hg (by decide) (by decide) he hpl
theorem ge_any (z : X.mg "any" = none) (hc : X.calm = true) (ha : GA X W [e] da) (hg : Gl X "any" := by rfl) (he : starEach [e] X.env = (false, eval e X.env) :: starEach [] X.env := by rfl) (hpl : (backTo pos (starEach [] X.env)).any (·.1) = false := by rfl) : GE X W (.Call (.Name "any" p) [e] [] pos) (dCall fAny da) :=
  ge_callB (cr_any hc) cs_any z rfl ha hg (by decide) (by decide) he hpl
theorem ge_abs (z : X.mg "abs" = none) (ha : GA X W [e] da) (hg : Gl X "abs" := by rfl) (he : starEach [e] X.env = (false, eval e X.env) :: starEach [] X.env := by rfl) (hpl : (backTo pos (starEach [] X.env)).any (·.1) = false := by rfl) : GE X W (.Call (.Name "abs" p) [e] [] pos) (dCall fAbs da) :=
  ge_callB call_abs cs_abs z rfl ha hg (by decide) (by decide) he hpl
end
end DL
set_option Elab.async false
set_option linter.all false
set_option maxRecDepth 100000
set_option maxHeartbeats 4000000
/-! DLz: the end of a law: what the top has written, the promise of law. -/
namespace DL
open PySem L2

theorem sp_law {K : PySem.W.Frag} {mg : Str → Option Value} {H : Hp} {a : Addr} {ns : List Int} {fden : List D → FR} (h : ∃ ps, fden [.scr ns] = .ok (.bl true) ps) (hS : SqL K H a (ns.map V.int)) : spD K mg 1 fden [.ref a] H (fun v _ => v = .bl true) fun _ _ _ => False := by
  obtain ⟨ps, e⟩ := h
  refine ⟨rfl, H, [.scr ns], [], ?_, List.nodup_nil, fun a ha => absurd ha List.not_mem_nil, Ex.refl H, ?_⟩
  · exact RpL.one (by unfold Rp; exact ⟨rfl, a, rfl, hS⟩)
  · unfold FRP
    rw [e]
    refine ⟨rfl, rfl, fun v H' F' hp => ?_⟩
    obtain ⟨S', ru, _⟩ := hp
    unfold RpLu at ru
    obtain ⟨v', r, S1, S2, e2, _, hd, _⟩ := ru
    cases e2
    rcases hd with hd | hd
    · cases hd.1
    · unfold Rp at hd
      exact hd.1
theorem tb_nil {P : Str → Bool → Prop} : ∀ cl y, (([] : List (Str × Bool)).lookup cl) = some y → P cl y := fun cl y h => by cases h
theorem tb_cons {P : Str → Bool → Prop} {c : Str} {b : Bool} {r : List (Str × Bool)} (h1 : P c b) (h2 : ∀ cl y, r.lookup cl = some y → P cl y) : ∀ cl y, ((c, b) :: r).lookup cl = some y → P cl y := fun cl y h => by
  rw [List.lookup_cons] at h
  cases q : cl == c with
  | true =>
    rw [q] at h
    have e : cl = c := by simpa using q
    cases h
    rw [e]
    exact h1
  | false =>
    rw [q] at h
    exact h2 cl y h
section
variable {K : PySem.W.Frag} {mg : Str → Option Value} {x : Str} {C Ch : Addr} {b : Bool}
theorem mg_at (hm : mg x = some (.ref C)) {Q : Addr → Prop} (h : Q C) : ∀ D, mg x = some (.ref D) → Q D := fun D hD => by
  have e := hD.symm.trans hm
  cases e
  exact h
theorem excR_mk (h1 : mg x = some (.ref C)) (h2 : PySem.W.excIn K C veMro "ValueError.__new__" = true) (h3 : PySem.W.keepIn K (.ref C) = true) (h4 : PySem.W.subIn K (.ref C) (.type "BaseException") = some true) (h5 : PySem.W.typeIn K (.ref C) = some (.type "type")) : ExcR K mg x :=
  ⟨C, h1, h2, h3, h4, h5⟩
theorem kit_ref (h1 : (PySem.W.clsIn K Ch).isSome = true) (h2 : PySem.W.typeIn K (.ref Ch) = some (.type "type")) (h3 : PySem.W.subIn K (.ref C) (.ref Ch) = some b) (hb : C = Ch → b = true) : PySem.W.kitOne K (.ref C) (.ref Ch) = some b := by
  unfold PySem.W.kitOne
  by_cases e : C = Ch
  · subst e
    rw [if_pos (beq_self_eq_true _), hb rfl]
  · rw [if_neg (by simpa using e)]
    unfold PySem.W.kitCls
    dsimp only
    rw [h1, h2]
    exact h3
end
theorem mem_cons {P : String → Prop} {t : String} {ts : List String} (h1 : P t) (h2 : ∀ x, x ∈ ts → P x) : ∀ x, x ∈ t :: ts → P x := fun x hx => (List.mem_cons.mp hx).elim (fun e => by rw [e]; exact h1) (h2 x)
theorem kit_plain {K : PySem.W.Frag} {Ch : Addr} {t : String} (h1 : (PySem.W.clsIn K Ch).isSome = true) (h2 : PySem.W.typeIn K (.ref Ch) = some (.type "type")) (h3 : PySem.W.subIn K (.type t) (.ref Ch) = some false) : PySem.W.kitOne K (.type t) (.ref Ch) = some false := by
  unfold PySem.W.kitOne
  rw [if_neg (by simp)]
  unfold PySem.W.kitCls
  dsimp only
  rw [h1, h2]
  exact h3
theorem has_mk {P : Program} {w : World} {K : PySem.W.Frag} {mg : Str → Option Value} {base : Heap} {k : Nat} {x : Str} {f : Addr} {fd : FuncData} {ps : List Str} {fden : List D → FR} (F : FnD P w K mg base k f fd ps fden) (hm : mg x = some (.ref f)) (hk : PySem.W.keepIn K (.ref f) = true) (hb : Binds K fd ps []) : Has P w K mg base k x ps fden [] :=
  ⟨f, fd, [], [], F, hm, hk, hb, .nil, fun _ _ => RpL.nil⟩
theorem hasK_mk {P : Program} {w : World} {K : PySem.W.Frag} {mg : Str → Option Value} {base : Heap} {k m : Nat} {x : Str} {f : Addr} {fd : FuncData} {ps ks : List Str} {ord : List Nat} {fden : List D → FR} (F : FnD P w K mg base k f fd ps fden) (hm : mg x = some (.ref f)) (hk : PySem.W.keepIn K (.ref f) = true)
    (hb : ∀ (s : Shared) (us ws : List Value), us.length = m → ws.length = ks.length → BindsTo s fd ⟨us, ks.zip ws⟩ (ps.zip (ordL .none ord (us ++ ws ++ [])))) (hl : ord.length = ps.length) : HasK P w K mg base k x ps ks ord m fden [] :=
  ⟨f, fd, [], [], F, hm, hk, ⟨fun s us ws _ h1 h2 => hb s us ws h1 h2, hl⟩, .nil, fun _ _ => RpL.nil⟩
end DL
set_option Elab.async false
set_option linter.all false
set_option maxRecDepth 100000
set_option maxHeartbeats 4000000
/-! printed by gen.py: the text of k09 by places, its denotations, their derivations. -/
namespace K09
open PySem L2 DL
def top (i : Nat) : Stmt := PySem.Challenge.pw_scooprow_k09_holders_exchanged.main.body.getD i (.Pass ⟨0, 0, 0, 0⟩)
abbrev t_ScoopError : List (Str × Bool) := [("BadHolder", true)]
abbrev i_BadHolder : List (Str × Bool) := [("BadHolder", true)]
structure Txt (K : PySem.W.Frag) (mg : Str → Option Value) : Prop where
  z_bool : mg "bool" = none
  z_enumerate : mg "enumerate" = none
  z_int : mg "int" = none
  z_isinstance : mg "isinstance" = none
  z_len : mg "len" = none
  z_list : mg "list" = none
  z_min : mg "min" = none
  z_range : mg "range" = none
  z_repr : mg "repr" = none
  z_tuple : mg "tuple" = none
  c_GREATEST_CAPACITY : ∃ t, mg "GREATEST_CAPACITY" = some (.int 99 t)
  x_BadHolder : ExcR K mg "BadHolder"
  t_ScoopError : TryT K mg "ScoopError" t_ScoopError
  i_BadHolder : IsiT K mg "BadHolder" i_BadHolder ["NoneType"]

/-! ### is_integer -/
abbrev s_is_integer : Stmt := top 4
theorem sc_is_integer : FnScope ["value"] ["value"] (defScope s_is_integer) := ⟨rfl, rfl, rfl, by decide +kernel, rfl, by decide +kernel, by decide +kernel⟩
theorem ok_is_integer {Pr : Program} {w : World} {K : PySem.W.Frag} {mg : Str → Option Value} {base : Heap} {f : Addr} {fd : FuncData} (F : Fun K "is_integer" "is_integer" s_is_integer f fd) (T : Txt K mg) : FnD Pr w K mg base 1 f fd ["value"] f_is_integer :=
  fnD_of (Pn := [0]) F sc_is_integer (by decide) fun cdv A outer s H E hr hgd =>
  (gss_one (gs_ret (gb_and (gb_val (ge_isi (ge_var 0) T.z_isinstance T.z_int)) (gb_one (gb_not (gb_val (ge_isi (ge_var 0) T.z_isinstance T.z_bool)))))))

/-! ### is_between -/
abbrev s_is_between : Stmt := top 5
theorem sc_is_between : FnScope ["value", "least", "greatest"] ["value", "least", "greatest"] (defScope s_is_between) := ⟨rfl, rfl, rfl, by decide +kernel, rfl, by decide +kernel, by decide +kernel⟩
theorem ok_is_between {Pr : Program} {w : World} {K : PySem.W.Frag} {mg : Str → Option Value} {base : Heap} {f : Addr} {fd : FuncData} (F : Fun K "is_between" "is_between" s_is_between f fd) (T : Txt K mg) (h_is_integer : Has Pr w K mg base 1 "is_integer" ["value"] f_is_integer []) : FnD Pr w K mg base 2 f fd ["value", "least", "greatest"] f_is_between :=
  fnD_of (Pn := [0, 1, 2]) F sc_is_between (by decide) fun cdv A outer s H E hr hgd =>
  (gss_one (gs_ret (gb_and (gb_val (ge_fn tkx hgd h_is_integer (hr.mono (by decide)) (ga_cons (ge_var 0) ga_nil))) (gb_one (gb_chain op_le os_le op_le os_le (ge_var 1) (ge_var 0) (ge_var 2))))))

/-! ### passage -/
abbrev s_passage : Stmt := top 8
theorem sc_passage : FnScope ["capacity", "load", "box_capacity", "count", "picked_up", "put_down"] ["capacity", "load", "box_capacity", "count"] (defScope s_passage) := ⟨rfl, rfl, rfl, by decide +kernel, rfl, by decide +kernel, by decide +kernel⟩
theorem ok_passage {Pr : Program} {w : World} {K : PySem.W.Frag} {mg : Str → Option Value} {base : Heap} {f : Addr} {fd : FuncData} (F : Fun K "passage" "passage" s_passage f fd) (T : Txt K mg) : FnD Pr w K mg base 1 f fd ["capacity", "load", "box_capacity", "count"] f_passage :=
  fnD_of (Pn := [0, 1, 2, 3]) F sc_passage (by decide) fun cdv A outer s H E hr hgd =>
  (gss_cons (gs_par 4 5 rfl sc_passage.nd (gau_cons (ge_use (ge_min2 T.z_min rfl (ga_cons (ge_op op_sub os_sub (ge_var 0) (ge_var 1)) (ga_cons (ge_var 3) ga_nil)))) (gau_cons (ge_use (ge_min2 T.z_min rfl (ga_cons (ge_var 1) (ga_cons (ge_op op_sub os_sub (ge_var 2) (ge_var 3)) ga_nil)))) gau_nil)))
  (gss_one (gs_ret (ge_tup (gau_cons (ge_use (ge_op op_addA os_add (ge_op op_sub os_sub (ge_var 3) (ge_var 4)) (ge_var 5))) (gau_cons (ge_use (ge_op op_sub os_sub (ge_op op_addA os_add (ge_var 1) (ge_var 4)) (ge_var 5))) gau_nil))))))

/-! ### is_holder -/
abbrev s_is_holder : Stmt := top 10
theorem sc_is_holder : FnScope ["value"] ["value"] (defScope s_is_holder) := ⟨rfl, rfl, rfl, by decide +kernel, rfl, by decide +kernel, by decide +kernel⟩
def b_is_holder : Sn := nSeq (nIf (dOr (dNot (dTest (dUn (fIsi "tuple") (dVar 0)))) (dOr (dTest (dOp fNeA (dCall fLen (dCons (dVar 0) (dNil))) (dC (.int 2)))) (dNot (dTest (dFn 3 f_is_between [] (dCons (dOp fIx (dVar 0) (dC (.int 0))) (dCons (dC (.int 1)) (dCons (dC (.int 99)) (dNil)))))))))
  (nRet (dC (.bl false)))
  (nSkip))
  (nRet (dFn 3 f_is_between [] (dCons (dOp fIx (dVar 0) (dC (.int 1))) (dCons (dC (.int 0)) (dCons (dOp fIx (dVar 0) (dC (.int 0))) (dNil))))))
def f_is_holder : List D → FR := fdOf [0] 1 b_is_holder
theorem ok_is_holder {Pr : Program} {w : World} {K : PySem.W.Frag} {mg : Str → Option Value} {base : Heap} {f : Addr} {fd : FuncData} (F : Fun K "is_holder" "is_holder" s_is_holder f fd) (T : Txt K mg) (h_is_between : Has Pr w K mg base 2 "is_between" ["value", "least", "greatest"] f_is_between []) : FnD Pr w K mg base 3 f fd ["value"] f_is_holder :=
  fnD_of (Pn := [0]) F sc_is_holder (by decide) fun cdv A outer s H E hr hgd =>
  (gss_cons (gs_if (gt_w (gw_or (gt_not (gt_val (ge_isi (ge_var 0) T.z_isinstance T.z_tuple))) (gw_or (gt_cmp (op_neA (hu64 hr)) os_neA (ge_len T.z_len (ga_cons (ge_var 0) ga_nil)) ge_int (h1 := fNeA_un1) (h2 := fNeA_un2)) (gw_or1 (gt_not (gt_val (ge_fn tkx hgd h_is_between (hr.mono (by decide)) (ga_cons (ge_ix ix_seq os_ix (ge_var 0) ge_int) (ga_cons ge_int (ga_cons (ge_glob T.c_GREATEST_CAPACITY) ga_nil))))))))))
  (gss_one (gs_ret ge_bl))
  gss_nil)
  (gss_one (gs_ret (ge_fn tkx hgd h_is_between (hr.mono (by decide)) (ga_cons (ge_ix ix_seq os_ix (ge_var 0) ge_int) (ga_cons ge_int (ga_cons (ge_ix ix_seq os_ix (ge_var 0) ge_int) ga_nil)))))))

/-! ### exchanged -/
abbrev s_exchanged : Stmt := top 11
theorem sc_exchanged : FnScope ["left", "right", "count", "load"] ["left", "right"] (defScope s_exchanged) := ⟨rfl, rfl, rfl, by decide +kernel, rfl, by decide +kernel, by decide +kernel⟩
def b_exchanged : Sn := nSeq (nIf (dOr (dNot (dTest (dFn 1 f_is_holder [] (dCons (dVar 0) (dNil))))) (dNot (dTest (dFn 1 f_is_holder [] (dCons (dVar 1) (dNil))))))
  (nRaise "BadHolder")
  (nSkip))
  (nSeq (nAsgT (tgTup [tgName 2, tgName 3]) (dFn 4 f_passage [] (dCons (dOp fIx (dVar 0) (dC (.int 0))) (dCons (dOp fIx (dVar 0) (dC (.int 1))) (dCons (dOp fIx (dVar 1) (dC (.int 0))) (dCons (dOp fIx (dVar 1) (dC (.int 1))) (dNil)))))))
  (nRet (dTup (dCons (dU (dTup (dCons (dU (dOp fIx (dVar 1) (dC (.int 0)))) (dCons (dU (dVar 2)) (dNil))))) (dCons (dU (dTup (dCons (dU (dOp fIx (dVar 0) (dC (.int 0)))) (dCons (dU (dVar 3)) (dNil))))) (dNil))))))
def f_exchanged : List D → FR := fdOf [0, 1] 4 b_exchanged
theorem ok_exchanged {Pr : Program} {w : World} {K : PySem.W.Frag} {mg : Str → Option Value} {base : Heap} {f : Addr} {fd : FuncData} (F : Fun K "exchanged" "exchanged" s_exchanged f fd) (T : Txt K mg) (h_is_holder : Has Pr w K mg base 3 "is_holder" ["value"] f_is_holder []) (h_passage : Has Pr w K mg base 1 "passage" ["capacity", "load", "box_capacity", "count"] f_passage []) : FnD Pr w K mg base 4 f fd ["left", "right"] f_exchanged :=
  fnD_of (Pn := [0, 1]) F sc_exchanged (by decide) fun cdv A outer s H E hr hgd =>
  (gss_cons (gs_if (gt_w (gw_or (gt_not (gt_val (ge_fn tkx hgd h_is_holder (hr.mono (by decide)) (ga_cons (ge_var 0) ga_nil)))) (gw_or1 (gt_not (gt_val (ge_fn tkx hgd h_is_holder (hr.mono (by decide)) (ga_cons (ge_var 1) ga_nil)))))))
  (gss_one (gs_raiseR rfl tkx T.x_BadHolder))
  gss_nil)
  (gss_cons (gs_asg (ge_use (ge_fn tkx hgd h_passage (hr.mono (by decide)) (ga_cons (ge_ix ix_seq os_ix (ge_var 0) ge_int) (ga_cons (ge_ix ix_seq os_ix (ge_var 0) ge_int) (ga_cons (ge_ix ix_seq os_ix (ge_var 1) ge_int) (ga_cons (ge_ix ix_seq os_ix (ge_var 1) ge_int) ga_nil)))))) (gg_tup rfl (ggs_cons (gg_name 2 sc_exchanged.nd) (ggs_cons (gg_name 3 sc_exchanged.nd) ggs_nil))))
  (gss_one (gs_ret (ge_tup (gau_cons (ge_use (ge_tup (gau_cons (ge_use (ge_ix ix_seq os_ix (ge_var 1) ge_int)) (gau_cons (ge_use (ge_var 2)) gau_nil)))) (gau_cons (ge_use (ge_tup (gau_cons (ge_use (ge_ix ix_seq os_ix (ge_var 0) ge_int)) (gau_cons (ge_use (ge_var 3)) gau_nil)))) gau_nil)))))))

/-! ### _law_begun -/
abbrev s__law_begun : Stmt := top 13
theorem sc__law_begun : FnScope ["script", "wide", "cell"] ["script"] (defScope s__law_begun) := ⟨rfl, rfl, rfl, by decide +kernel, rfl, by decide +kernel, by decide +kernel⟩
theorem ok__law_begun {Pr : Program} {w : World} {K : PySem.W.Frag} {mg : Str → Option Value} {base : Heap} {f : Addr} {fd : FuncData} (F : Fun K "_law_begun" "_law_begun" s__law_begun f fd) (T : Txt K mg) : FnD Pr w K mg base 1 f fd ["script"] f__law_begun :=
  fnD_of (Pn := [0]) F sc__law_begun (by decide) fun cdv A outer s H E hr hgd =>
  (gss_cons (gs_setLc [("cell", 2)] rfl sc__law_begun.nd rfl rfl rfl rfl (gi_list (ge_use (ge_var 0))) (by show BlkOk ["script", "wide", "cell"] (defScope s__law_begun) _ [("cell", 2)]; exact ⟨by rfl, by decide +kernel, by decide +kernel, by decide +kernel, by decide +kernel⟩) (fun _ _ _ _ _ => (gg_name 2 sc__law_begun.nd)) (fun _ _ _ _ _ => (gts_one (gt_cmp op_ge os_ge (ge_var 2) (ge_op op_pow os_pow ge_int ge_int)))) (fun _ _ _ _ _ => (ge_use (ge_op op_sub os_sub (ge_var 2) (ge_op op_pow os_pow ge_int ge_int)))))
  (gss_one (gs_ret (ge_disp (ps := [(dC (.str "great"), dMv 1), (dC (.str "cells"), dFz (dU (dCall fList (dCons (dVar 0) (dNil))))), (dC (.str "rest"), dC (.int 0)), (dC (.str "turn"), dC (.int 0))]) (pps_cons ge_str (ge_use (geu_ge (ge_mv 1))) (pps_cons ge_str (ge_use (geu_ge (ge_fz (ge_use (ge_listc T.z_list (ga_cons (ge_var 0) ga_nil)))))) (pps_cons ge_str (ge_use ge_int) (pps_cons ge_str (ge_use ge_int) pps_nil))))))))

/-! ### _law_mixed -/
abbrev s__law_mixed : Stmt := top 14
theorem sc__law_mixed : FnScope ["state", "turn", "found", "prime", "blend", "cell"] ["state"] (defScope s__law_mixed) := ⟨rfl, rfl, rfl, by decide +kernel, rfl, by decide +kernel, by decide +kernel⟩
theorem ok__law_mixed {Pr : Program} {w : World} {K : PySem.W.Frag} {mg : Str → Option Value} {base : Heap} {f : Addr} {fd : FuncData} (F : Fun K "_law_mixed" "_law_mixed" s__law_mixed f fd) (T : Txt K mg) : FnD Pr w K mg base 1 f fd ["state"] f__law_mixed :=
  fnD_of (Pn := [0]) F sc__law_mixed (by decide) fun cdv A outer s H E hr hgd =>
  (gss_cons (gs_set 1 (ge_use (ge_op op_addA os_add (ge_dget (hu1 hr) (ge_var 0) ge_str) ge_int)) sc__law_mixed.nd)
  (gss_cons (gs_dput (hu1 hr) (ge_var 0) ge_str (ge_use (ge_var 1)))
  (gss_cons (gs_set 2 (ge_use ge_int) sc__law_mixed.nd)
  (gss_cons (gs_for pox rfl (gi_list (ge_use (ge_list (gau_cons (ge_use ge_int) (gau_cons (ge_use ge_int) (gau_cons (ge_use ge_int) (gau_cons (ge_use ge_int) (gau_cons (ge_use ge_int) (gau_cons (ge_use ge_int) gau_nil))))))))) (gg_name 3 sc__law_mixed.nd)
  (gss_cons (gs_set 4 (ge_use (ge_op op_addA os_add (ge_op op_mulA os_mul ge_int (ge_var 1)) (ge_op op_fdivW os_div (ge_var 3) ge_int))) sc__law_mixed.nd)
  (gss_cons (gs_for pox rfl (gi_list (ge_use (ge_dget (hu1 hr) (ge_var 0) ge_str))) (gg_name 5 sc__law_mixed.nd)
  (gss_one (gs_set 4 (ge_use (ge_op op_mod os_mod (ge_intc T.z_int (ga_cons (ge_op op_addA os_add (ge_op op_mulA os_mul (ge_var 4) ge_int) (ge_var 5)) ga_nil)) (ge_var 3))) sc__law_mixed.nd)))
  (gss_one (gs_set 2 (ge_use (ge_op op_addA os_add (ge_op op_mulA os_mul (ge_var 2) ge_int) (ge_op op_mod os_mod (ge_intc T.z_int (ga_cons (ge_op op_pow os_pow (ge_var 4) ge_int) ga_nil)) (ge_var 3)))) sc__law_mixed.nd)))))
  (gss_one (gs_ret (ge_var 2)))))))

/-! ### _law_take -/
abbrev s__law_take : Stmt := top 15
theorem sc__law_take : FnScope ["state", "size", "found"] ["state", "size"] (defScope s__law_take) := ⟨rfl, rfl, rfl, by decide +kernel, rfl, by decide +kernel, by decide +kernel⟩
theorem ok__law_take {Pr : Program} {w : World} {K : PySem.W.Frag} {mg : Str → Option Value} {base : Heap} {f : Addr} {fd : FuncData} (F : Fun K "_law_take" "_law_take" s__law_take f fd) (T : Txt K mg) (h__law_mixed : Has Pr w K mg base 1 "_law_mixed" ["state"] f__law_mixed []) : FnD Pr w K mg base 2 f fd ["state", "size"] f__law_take :=
  fnD_of (Pn := [0, 1]) F sc__law_take (by decide) fun cdv A outer s H E hr hgd =>
  (gss_cons (gs_if (gt_w (gw_and (gt_cmp (op_eqA (hu64 hr)) os_eqA (ge_dget (hu1 hr) (ge_var 0) ge_str) ge_int (h1 := fEqA_un1) (h2 := fEqA_un2)) (gw_and1 (gt_neNil 0 (hu64 hr)))))
  (gss_one (gs_dput (hu1 hr) (ge_var 0) ge_str (ge_use (ge_pop0 0 (hu1 hr)))))
  (gss_one (gs_if (gt_cmp (op_eqA (hu64 hr)) os_eqA (ge_dget (hu1 hr) (ge_var 0) ge_str) ge_int (h1 := fEqA_un1) (h2 := fEqA_un2))
  (gss_one (gs_dput (hu1 hr) (ge_var 0) ge_str (ge_use (ge_fn tkx hgd h__law_mixed (hr.mono (by decide)) (ga_cons (ge_var 0) ga_nil)))))
  gss_nil)))
  (gss_cons (gs_set 2 (ge_use (ge_op op_mod os_mod (ge_intc T.z_int (ga_cons (ge_dget (hu1 hr) (ge_var 0) ge_str) ga_nil)) (ge_var 1))) sc__law_take.nd)
  (gss_cons (gs_dput (hu1 hr) (ge_var 0) ge_str (ge_use (ge_op op_fdivW os_div (ge_dget (hu1 hr) (ge_var 0) ge_str) (ge_var 1))))
  (gss_one (gs_ret (ge_var 2))))))

/-! ### _law_pick -/
abbrev s__law_pick : Stmt := top 16
theorem sc__law_pick : FnScope ["state", "some"] ["state", "some"] (defScope s__law_pick) := ⟨rfl, rfl, rfl, by decide +kernel, rfl, by decide +kernel, by decide +kernel⟩
theorem ok__law_pick {Pr : Program} {w : World} {K : PySem.W.Frag} {mg : Str → Option Value} {base : Heap} {f : Addr} {fd : FuncData} (F : Fun K "_law_pick" "_law_pick" s__law_pick f fd) (T : Txt K mg) (h__law_take : Has Pr w K mg base 2 "_law_take" ["state", "size"] f__law_take []) : FnD Pr w K mg base 3 f fd ["state", "some"] f__law_pick :=
  fnD_of (Pn := [0, 1]) F sc__law_pick (by decide) fun cdv A outer s H E hr hgd =>
  (gss_one (gs_ret (ge_ix ix_seq os_ix (ge_var 1) (ge_fn tkx hgd h__law_take (hr.mono (by decide)) (ga_cons (ge_var 0) (ga_cons (ge_len T.z_len (ga_cons (ge_var 1) ga_nil)) ga_nil))))))

/-! ### _law_passed -/
abbrev s__law_passed : Stmt := top 17
theorem sc__law_passed : FnScope ["most", "burden", "size", "amount", "up", "down"] ["most", "burden", "size", "amount"] (defScope s__law_passed) := ⟨rfl, rfl, rfl, by decide +kernel, rfl, by decide +kernel, by decide +kernel⟩
def b__law_passed : Sn := nSeq (nPar 4 5 (dCons (dU (dCall fMin2 (dCons (dOp fSub (dVar 0) (dVar 1)) (dCons (dVar 3) (dNil))))) (dCons (dU (dCall fMin2 (dCons (dVar 1) (dCons (dOp fSub (dVar 2) (dVar 3)) (dNil))))) (dNil))))
  (nRet (dTup (dCons (dU (dOp fAdd (dOp fSub (dVar 3) (dVar 4)) (dVar 5))) (dCons (dU (dOp fSub (dOp fAdd (dVar 1) (dVar 4)) (dVar 5))) (dNil)))))
def f__law_passed : List D → FR := fdOf [0, 1, 2, 3] 6 b__law_passed
theorem ok__law_passed {Pr : Program} {w : World} {K : PySem.W.Frag} {mg : Str → Option Value} {base : Heap} {f : Addr} {fd : FuncData} (F : Fun K "_law_passed" "_law_passed" s__law_passed f fd) (T : Txt K mg) : FnD Pr w K mg base 1 f fd ["most", "burden", "size", "amount"] f__law_passed :=
  fnD_of (Pn := [0, 1, 2, 3]) F sc__law_passed (by decide) fun cdv A outer s H E hr hgd =>
  (gss_cons (gs_par 4 5 rfl sc__law_passed.nd (gau_cons (ge_use (ge_min2 T.z_min rfl (ga_cons (ge_op op_sub os_sub (ge_var 0) (ge_var 1)) (ga_cons (ge_var 3) ga_nil)))) (gau_cons (ge_use (ge_min2 T.z_min rfl (ga_cons (ge_var 1) (ga_cons (ge_op op_sub os_sub (ge_var 2) (ge_var 3)) ga_nil)))) gau_nil)))
  (gss_one (gs_ret (ge_tup (gau_cons (ge_use (ge_op op_addA os_add (ge_op op_sub os_sub (ge_var 3) (ge_var 4)) (ge_var 5))) (gau_cons (ge_use (ge_op op_sub os_sub (ge_op op_addA os_add (ge_var 1) (ge_var 4)) (ge_var 5))) gau_nil))))))

/-! ### _law_holder -/
abbrev s__law_holder : Stmt := top 18
theorem sc__law_holder : FnScope ["state", "most"] ["state"] (defScope s__law_holder) := ⟨rfl, rfl, rfl, by decide +kernel, rfl, by decide +kernel, by decide +kernel⟩
def b__law_holder : Sn := nSeq (nAsg 1 (dFn 2 f__law_pick [] (dCons (dVar 0) (dCons (dLst (dCons (dU (dC (.int 1))) (dCons (dU (dC (.int 1))) (dCons (dU (dC (.int 2))) (dCons (dU (dC (.int 3))) (dCons (dU (dC (.int 9))) (dCons (dU (dC (.int 99))) (dCons (dU (dOp fAdd (dC (.int 1)) (dFn 2 f__law_take [] (dCons (dVar 0) (dCons (dC (.int 99)) (dNil)))))) (dNil))))))))) (dNil)))))
  (nRet (dTup (dCons (dU (dVar 1)) (dCons (dU (dFn 2 f__law_pick [] (dCons (dVar 0) (dCons (dLst (dCons (dU (dC (.int 0))) (dCons (dU (dVar 1)) (dCons (dU (dFn 2 f__law_take [] (dCons (dVar 0) (dCons (dOp fAdd (dVar 1) (dC (.int 1))) (dNil))))) (dNil))))) (dNil))))) (dNil)))))
def f__law_holder : List D → FR := fdOf [0] 2 b__law_holder
theorem ok__law_holder {Pr : Program} {w : World} {K : PySem.W.Frag} {mg : Str → Option Value} {base : Heap} {f : Addr} {fd : FuncData} (F : Fun K "_law_holder" "_law_holder" s__law_holder f fd) (T : Txt K mg) (h__law_pick : Has Pr w K mg base 3 "_law_pick" ["state", "some"] f__law_pick []) (h__law_take : Has Pr w K mg base 2 "_law_take" ["state", "size"] f__law_take []) : FnD Pr w K mg base 4 f fd ["state"] f__law_holder :=
  fnD_of (Pn := [0]) F sc__law_holder (by decide) fun cdv A outer s H E hr hgd =>
  (gss_cons (gs_set 1 (ge_use (ge_fn tkx hgd h__law_pick (hr.mono (by decide)) (ga_cons (ge_var 0) (ga_cons (ge_list (gau_cons (ge_use ge_int) (gau_cons (ge_use ge_int) (gau_cons (ge_use ge_int) (gau_cons (ge_use ge_int) (gau_cons (ge_use ge_int) (gau_cons (ge_use ge_int) (gau_cons (ge_use (ge_op op_addA os_add ge_int (ge_fn tkx hgd h__law_take (hr.mono (by decide)) (ga_cons (ge_var 0) (ga_cons ge_int ga_nil))))) gau_nil)))))))) ga_nil)))) sc__law_holder.nd)
  (gss_one (gs_ret (ge_tup (gau_cons (ge_use (ge_var 1)) (gau_cons (ge_use (ge_fn tkx hgd h__law_pick (hr.mono (by decide)) (ga_cons (ge_var 0) (ga_cons (ge_list (gau_cons (ge_use ge_int) (gau_cons (ge_use (ge_var 1)) (gau_cons (ge_use (ge_fn tkx hgd h__law_take (hr.mono (by decide)) (ga_cons (ge_var 0) (ga_cons (ge_op op_addA os_add (ge_var 1) ge_int) ga_nil)))) gau_nil)))) ga_nil)))) gau_nil))))))

/-! ### _law_pair -/
abbrev s__law_pair : Stmt := top 19
theorem sc__law_pair : FnScope ["one", "two", "amount", "burden"] ["one", "two"] (defScope s__law_pair) := ⟨rfl, rfl, rfl, by decide +kernel, rfl, by decide +kernel, by decide +kernel⟩
def b__law_pair : Sn := nSeq (nAsgT (tgTup [tgName 2, tgName 3]) (dFn 4 f__law_passed [] (dCons (dOp fIx (dVar 0) (dC (.int 0))) (dCons (dOp fIx (dVar 0) (dC (.int 1))) (dCons (dOp fIx (dVar 1) (dC (.int 0))) (dCons (dOp fIx (dVar 1) (dC (.int 1))) (dNil)))))))
  (nRet (dTup (dCons (dU (dTup (dCons (dU (dOp fIx (dVar 1) (dC (.int 0)))) (dCons (dU (dVar 2)) (dNil))))) (dCons (dU (dTup (dCons (dU (dOp fIx (dVar 0) (dC (.int 0)))) (dCons (dU (dVar 3)) (dNil))))) (dCons (dU (dCall fMin2 (dCons (dOp fSub (dOp fIx (dVar 0) (dC (.int 0))) (dOp fIx (dVar 0) (dC (.int 1)))) (dCons (dOp fIx (dVar 1) (dC (.int 1))) (dNil))))) (dNil))))))
def f__law_pair : List D → FR := fdOf [0, 1] 4 b__law_pair
theorem ok__law_pair {Pr : Program} {w : World} {K : PySem.W.Frag} {mg : Str → Option Value} {base : Heap} {f : Addr} {fd : FuncData} (F : Fun K "_law_pair" "_law_pair" s__law_pair f fd) (T : Txt K mg) (h__law_passed : Has Pr w K mg base 1 "_law_passed" ["most", "burden", "size", "amount"] f__law_passed []) : FnD Pr w K mg base 2 f fd ["one", "two"] f__law_pair :=
  fnD_of (Pn := [0, 1]) F sc__law_pair (by decide) fun cdv A outer s H E hr hgd =>
  (gss_cons (gs_asg (ge_use (ge_fn tkx hgd h__law_passed (hr.mono (by decide)) (ga_cons (ge_ix ix_seq os_ix (ge_var 0) ge_int) (ga_cons (ge_ix ix_seq os_ix (ge_var 0) ge_int) (ga_cons (ge_ix ix_seq os_ix (ge_var 1) ge_int) (ga_cons (ge_ix ix_seq os_ix (ge_var 1) ge_int) ga_nil)))))) (gg_tup rfl (ggs_cons (gg_name 2 sc__law_pair.nd) (ggs_cons (gg_name 3 sc__law_pair.nd) ggs_nil))))
  (gss_one (gs_ret (ge_tup (gau_cons (ge_use (ge_tup (gau_cons (ge_use (ge_ix ix_seq os_ix (ge_var 1) ge_int)) (gau_cons (ge_use (ge_var 2)) gau_nil)))) (gau_cons (ge_use (ge_tup (gau_cons (ge_use (ge_ix ix_seq os_ix (ge_var 0) ge_int)) (gau_cons (ge_use (ge_var 3)) gau_nil)))) (gau_cons (ge_use (ge_min2 T.z_min rfl (ga_cons (ge_op op_sub os_sub (ge_ix ix_seq os_ix (ge_var 0) ge_int) (ge_ix ix_seq os_ix (ge_var 0) ge_int)) (ga_cons (ge_ix ix_seq os_ix (ge_var 1) ge_int) ga_nil)))) gau_nil)))))))

/-! ### _law_turned -/
abbrev s__law_turned : Stmt := top 20
theorem sc__law_turned : FnScope ["some", "order", "line", "at", "one", "first", "gained", "two", "second", "taken", "new_one", "new_two", "up", "thing"] ["some", "order"] (defScope s__law_turned) := ⟨rfl, rfl, rfl, by decide +kernel, rfl, by decide +kernel, by decide +kernel⟩
def c__law_turned_1 : Dn D := dLc [3, 13] (itEnum (dVar 0)) (tgTup [tgName 3, tgName 13]) (dYes) (dTup (dCons (dU (dVar 13)) (dCons (dU (dVar 3)) (dCons (dU (dC (.int 0))) (dNil)))))
def b__law_turned_1 : Sn := nAsg 2 (c__law_turned_1)
def b__law_turned_2_1 : Sn := nAsgT (tgTup [tgTup [tgName 4, tgName 5, tgName 6], tgTup [tgName 7, tgName 8, tgName 9]]) (dTup (dCons (dU (dOp fIx (dVar 2) (dVar 3))) (dCons (dU (dOp fIx (dVar 2) (dOp fAdd (dVar 3) (dC (.int 1))))) (dNil))))
def b__law_turned_2_2 : Sn := nAsgT (tgTup [tgName 10, tgName 11, tgName 12]) (dFn 2 f__law_pair [] (dCons (dVar 4) (dCons (dVar 7) (dNil))))
def b__law_turned_2_3 : Sn := nIf (dTest (dOp fNeA (dFn 2 f_exchanged [] (dCons (dVar 4) (dCons (dVar 7) (dNil)))) (dTup (dCons (dU (dVar 10)) (dCons (dU (dVar 11)) (dNil))))))
  (nRet (dC .non))
  (nSkip)
def b__law_turned_2_4 : Sn := nAsgT (tgTup [tgSub (dVar 2) (dVar 3), tgSub (dVar 2) (dOp fAdd (dVar 3) (dC (.int 1)))]) (dTup (dCons (dU (dTup (dCons (dU (dVar 10)) (dCons (dU (dVar 8)) (dCons (dU (dOp fAdd (dVar 9) (dVar 12))) (dNil)))))) (dCons (dU (dTup (dCons (dU (dVar 11)) (dCons (dU (dVar 5)) (dCons (dU (dOp fSub (dVar 6) (dVar 12))) (dNil)))))) (dNil))))
def b__law_turned_2_b : Sn := nSeq b__law_turned_2_1 (nSeq b__law_turned_2_2 (nSeq b__law_turned_2_3 (b__law_turned_2_4)))
def b__law_turned_2 : Sn := nFor (itLst (dVar 1)) (tgName 3)
  (b__law_turned_2_b)
def b__law_turned_3 : Sn := nRet (dVar 2)
def b__law_turned : Sn := nSeq b__law_turned_1 (nSeq b__law_turned_2 (b__law_turned_3))
def f__law_turned : List D → FR := fdOf [0, 1] 14 b__law_turned
theorem ok__law_turned {Pr : Program} {w : World} {K : PySem.W.Frag} {mg : Str → Option Value} {base : Heap} {f : Addr} {fd : FuncData} (F : Fun K "_law_turned" "_law_turned" s__law_turned f fd) (T : Txt K mg) (h__law_pair : Has Pr w K mg base 2 "_law_pair" ["one", "two"] f__law_pair []) (h_exchanged : Has Pr w K mg base 4 "exchanged" ["left", "right"] f_exchanged []) : FnD Pr w K mg base 5 f fd ["some", "order"] f__law_turned :=
  fnD_of (Pn := [0, 1]) F sc__law_turned (by decide) fun cdv A outer s H E hr hgd =>
  (gss_cons (gs_setLc [("at", 3), ("thing", 13)] rfl sc__law_turned.nd rfl rfl rfl rfl (gi_enum T.z_enumerate (ge_use (ge_var 0))) (by show BlkOk ["some", "order", "line", "at", "one", "first", "gained", "two", "second", "taken", "new_one", "new_two", "up", "thing"] (defScope s__law_turned) _ [("at", 3), ("thing", 13)]; exact ⟨by rfl, by decide +kernel, by decide +kernel, by decide +kernel, by decide +kernel⟩) (fun _ _ _ _ _ => (gg_tup rfl (ggs_cons (gg_name 3 sc__law_turned.nd) (ggs_cons (gg_name 13 sc__law_turned.nd) ggs_nil)))) (fun _ _ _ _ _ => gts_nil) (fun _ _ _ _ _ => (ge_use (ge_tup (gau_cons (ge_use (ge_var 13)) (gau_cons (ge_use (ge_var 3)) (gau_cons (ge_use ge_int) gau_nil)))))))
  (gss_cons (gs_for pox rfl (gi_list (ge_use (ge_var 1))) (gg_name 3 sc__law_turned.nd)
  (gss_cons (gs_asg (ge_use (ge_tup (gau_cons (ge_use (ge_ix ix_seq os_ix (ge_var 2) (ge_var 3))) (gau_cons (ge_use (ge_ix ix_seq os_ix (ge_var 2) (ge_op op_addA os_add (ge_var 3) ge_int))) gau_nil)))) (gg_tup rfl (ggs_cons (gg_tup rfl (ggs_cons (gg_name 4 sc__law_turned.nd) (ggs_cons (gg_name 5 sc__law_turned.nd) (ggs_cons (gg_name 6 sc__law_turned.nd) ggs_nil)))) (ggs_cons (gg_tup rfl (ggs_cons (gg_name 7 sc__law_turned.nd) (ggs_cons (gg_name 8 sc__law_turned.nd) (ggs_cons (gg_name 9 sc__law_turned.nd) ggs_nil)))) ggs_nil))))
  (gss_cons (gs_asg (ge_use (ge_fn tkx hgd h__law_pair (hr.mono (by decide)) (ga_cons (ge_var 4) (ga_cons (ge_var 7) ga_nil)))) (gg_tup rfl (ggs_cons (gg_name 10 sc__law_turned.nd) (ggs_cons (gg_name 11 sc__law_turned.nd) (ggs_cons (gg_name 12 sc__law_turned.nd) ggs_nil)))))
  (gss_cons (gs_if (gt_cmp (op_neA (hu64 hr)) os_neA (ge_fn tkx hgd h_exchanged (hr.mono (by decide)) (ga_cons (ge_var 4) (ga_cons (ge_var 7) ga_nil))) (ge_tup (gau_cons (ge_use (ge_var 10)) (gau_cons (ge_use (ge_var 11)) gau_nil))) (h1 := fNeA_un1) (h2 := fNeA_un2))
  (gss_one (gs_ret ge_non))
  gss_nil)
  (gss_one (gs_asg (ge_use (ge_tup (gau_cons (ge_use (ge_tup (gau_cons (ge_use (ge_var 10)) (gau_cons (ge_use (ge_var 8)) (gau_cons (ge_use (ge_op op_addA os_add (ge_var 9) (ge_var 12))) gau_nil))))) (gau_cons (ge_use (ge_tup (gau_cons (ge_use (ge_var 11)) (gau_cons (ge_use (ge_var 5)) (gau_cons (ge_use (ge_op op_sub os_sub (ge_var 6) (ge_var 12))) gau_nil))))) gau_nil)))) (gg_tup rfl (ggs_cons (gg_sub (ge_var 2) (ge_var 3)) (ggs_cons (gg_sub (ge_var 2) (ge_op op_addA os_add (ge_var 3) ge_int)) ggs_nil)))))))))
  (gss_one (gs_ret (ge_var 2)))))

/-! ### _law_is_refused -/
abbrev s__law_is_refused : Stmt := top 21
theorem sc__law_is_refused : FnScope ["one", "two", "caught", "error"] ["one", "two"] (defScope s__law_is_refused) := ⟨rfl, rfl, rfl, by decide +kernel, rfl, by decide +kernel, by decide +kernel⟩
def b__law_is_refused : Sn := nSeq (nAsg 2 (dC .non))
  (nSeq (nTry 3 t_ScoopError
  (nDrop (dFn 2 f_exchanged [] (dCons (dVar 0) (dCons (dVar 1) (dNil)))))
  (nAsg 2 (dVar 3)))
  (nRet (dUn (fIsE i_BadHolder ["NoneType"]) (dVar 2))))
def f__law_is_refused : List D → FR := fdOf [0, 1] 4 b__law_is_refused
theorem ok__law_is_refused {Pr : Program} {w : World} {K : PySem.W.Frag} {mg : Str → Option Value} {base : Heap} {f : Addr} {fd : FuncData} (F : Fun K "_law_is_refused" "_law_is_refused" s__law_is_refused f fd) (T : Txt K mg) (h_exchanged : Has Pr w K mg base 4 "exchanged" ["left", "right"] f_exchanged []) : FnD Pr w K mg base 5 f fd ["one", "two"] f__law_is_refused :=
  fnD_of (Pn := [0, 1]) F sc__law_is_refused (by decide) fun cdv A outer s H E hr hgd =>
  (gss_cons (gs_set 2 (ge_use ge_non) sc__law_is_refused.nd)
  (gss_cons (gs_tryT 3 T.t_ScoopError rfl rfl sc__law_is_refused.nd tkx (fun _ _ _ tkT poT => (gss_one (gs_drop (ge_fn tkT hgd h_exchanged (hr.mono (by decide)) (ga_cons (ge_var 0) (ga_cons (ge_var 1) ga_nil)))))) (fun _ _ => (gss_one (gs_set 2 (ge_use (ge_var 3)) sc__law_is_refused.nd))))
  (gss_one (gs_ret (ge_isiT (ge_var 2) T.z_isinstance T.i_BadHolder)))))

/-! ### law -/
abbrev s_law : Stmt := top 22
theorem sc_law : FnScope ["script", "state", "turn", "one", "two", "three", "new_one", "new_two", "up", "due", "found", "odd", "bad"] ["script"] (defScope s_law) := ⟨rfl, rfl, rfl, by decide +kernel, rfl, by decide +kernel, by decide +kernel⟩
def b_law_1 : Sn := nAsg 1 (dFn 1 f__law_begun [] (dCons (dVar 0) (dNil)))
def b_law_2_1 : Sn := nPar3 3 4 5 (dCons (dU (dFn 1 f__law_holder [] (dCons (dVar 1) (dNil)))) (dCons (dU (dFn 1 f__law_holder [] (dCons (dVar 1) (dNil)))) (dCons (dU (dFn 1 f__law_holder [] (dCons (dVar 1) (dNil)))) (dNil))))
def b_law_2_2 : Sn := nAsgT (tgTup [tgName 6, tgName 7, tgName 8]) (dFn 2 f__law_pair [] (dCons (dVar 3) (dCons (dVar 4) (dNil))))
def b_law_2_3 : Sn := nAsg 9 (dTup (dCons (dU (dVar 6)) (dCons (dU (dVar 7)) (dNil))))
def b_law_2_4 : Sn := nIf (dOr (dTest (dOp fNeA (dCall fRepr (dCons (dFn 2 f_exchanged [] (dCons (dVar 3) (dCons (dVar 4) (dNil)))) (dNil))) (dCall fRepr (dCons (dVar 9) (dNil))))) (dTest (dOp fNeA (dFnK [1, 0] 2 f_exchanged [] (dCons (dU (dVar 4)) (dCons (dU (dVar 3)) (dNil)))) (dVar 9))))
  (nRet (dC (.bl false)))
  (nSkip)
def b_law_2_5 : Sn := nIf (dTest (dOp fNeA (dFn 2 f_exchanged [] (dCons (dVar 6) (dCons (dVar 7) (dNil)))) (dTup (dCons (dU (dVar 3)) (dCons (dU (dVar 4)) (dNil))))))
  (nRet (dC (.bl false)))
  (nSkip)
def b_law_2_6 : Sn := nAsg 10 (dFn 2 f__law_turned [] (dCons (dLst (dCons (dU (dVar 3)) (dCons (dU (dVar 4)) (dCons (dU (dVar 5)) (dNil))))) (dCons (dLst (dCons (dU (dC (.int 0))) (dCons (dU (dC (.int 1))) (dCons (dU (dC (.int 0))) (dNil))))) (dNil))))
def b_law_2_7 : Sn := nIf (dOr (dTest (dOp fIs (dVar 10) (dC .non))) (dTest (dOp fNeA (dVar 10) (dFn 2 f__law_turned [] (dCons (dLst (dCons (dU (dVar 3)) (dCons (dU (dVar 4)) (dCons (dU (dVar 5)) (dNil))))) (dCons (dLst (dCons (dU (dC (.int 1))) (dCons (dU (dC (.int 0))) (dCons (dU (dC (.int 1))) (dNil))))) (dNil)))))))
  (nRet (dC (.bl false)))
  (nSkip)
def b_law_2_8 : Sn := nAsg 11 (dLst (dCons (dU (dC .non)) (dCons (dU (dC (.int 5))) (dCons (dU (dTup (dNil))) (dCons (dU (dTup (dCons (dU (dC (.int 1))) (dNil)))) (dCons (dU (dTup (dCons (dU (dC (.int 1))) (dCons (dU (dC (.int 0))) (dCons (dU (dC (.int 0))) (dNil)))))) (dCons (dU (dFz (dU (dLst (dCons (dU (dC (.int 1))) (dCons (dU (dC (.int 0))) (dNil))))))) (dCons (dU (dTup (dCons (dU (dC (.int 0))) (dCons (dU (dC (.int 0))) (dNil))))) (dCons (dU (dTup (dCons (dU (dC (.int 100))) (dCons (dU (dC (.int 1))) (dNil))))) (dCons (dU (dTup (dCons (dU (dC (.int 2))) (dCons (dU (dC (.int 3))) (dNil))))) (dCons (dU (dTup (dCons (dU (dC (.int 2))) (dCons (dU (dUn fNeg (dC (.int 1)))) (dNil))))) (dCons (dU (dTup (dCons (dU (dC (.bl true))) (dCons (dU (dC (.int 0))) (dNil))))) (dCons (dU (dTup (dCons (dU (dC (.int 2))) (dCons (dU (dC (.bl true))) (dNil))))) (dCons (dU (dTup (dCons (dU (dC (.str "2"))) (dCons (dU (dC (.int 1))) (dNil))))) (dNil)))))))))))))))
def b_law_2_9 : Sn := nAsg 12 (dFn 2 f__law_pick [] (dCons (dVar 1) (dCons (dOp fAdd (dVar 11) (dLst (dCons (dU (dTup (dCons (dU (dC (.int 2))) (dCons (dU (dC .non)) (dNil))))) (dCons (dU (dFz (dU (dC (.dct true [] []))))) (dCons (dU (dC (.str "ab"))) (dCons (dU (dTup (dCons (dU (dOp fPow (dC (.int 10)) (dC (.int 30)))) (dCons (dU (dC (.int 1))) (dNil))))) (dCons (dU (dTup (dCons (dU (dTup (dCons (dU (dC (.int 1))) (dCons (dU (dC (.int 0))) (dNil))))) (dCons (dU (dC (.int 0))) (dNil))))) (dNil)))))))) (dNil))))
def b_law_2_10 : Sn := nIf (dOr (dNot (dTest (dFn 2 f__law_is_refused [] (dCons (dVar 12) (dCons (dVar 4) (dNil)))))) (dOr (dNot (dTest (dFn 2 f__law_is_refused [] (dCons (dVar 3) (dCons (dVar 12) (dNil)))))) (dNot (dTest (dFn 2 f__law_is_refused [] (dCons (dVar 12) (dCons (dVar 12) (dNil))))))))
  (nRet (dC (.bl false)))
  (nSkip)
def b_law_2_b : Sn := nSeq b_law_2_1 (nSeq b_law_2_2 (nSeq b_law_2_3 (nSeq b_law_2_4 (nSeq b_law_2_5 (nSeq b_law_2_6 (nSeq b_law_2_7 (nSeq b_law_2_8 (nSeq b_law_2_9 (b_law_2_10)))))))))
def b_law_2 : Sn := nFor (itRng1 (dCons (dOp fAdd (dC (.int 10)) (dCall fMin2 (dCons (dCall fLen (dCons (dVar 0) (dNil))) (dCons (dC (.int 30)) (dNil))))) (dNil))) (tgName 2)
  (b_law_2_b)
def b_law_3 : Sn := nRet (dC (.bl true))
def b_law : Sn := nSeq b_law_1 (nSeq b_law_2 (b_law_3))
def f_law : List D → FR := fdOf [0] 13 b_law
theorem ok_law {Pr : Program} {w : World} {K : PySem.W.Frag} {mg : Str → Option Value} {base : Heap} {f : Addr} {fd : FuncData} (F : Fun K "law" "law" s_law f fd) (T : Txt K mg) (h__law_begun : Has Pr w K mg base 1 "_law_begun" ["script"] f__law_begun []) (h__law_holder : Has Pr w K mg base 4 "_law_holder" ["state"] f__law_holder []) (h__law_is_refused : Has Pr w K mg base 5 "_law_is_refused" ["one", "two"] f__law_is_refused []) (h__law_pair : Has Pr w K mg base 2 "_law_pair" ["one", "two"] f__law_pair []) (h__law_pick : Has Pr w K mg base 3 "_law_pick" ["state", "some"] f__law_pick []) (h__law_turned : Has Pr w K mg base 5 "_law_turned" ["some", "order"] f__law_turned []) (h_exchanged : Has Pr w K mg base 4 "exchanged" ["left", "right"] f_exchanged []) (hk_exchanged_0 : HasK Pr w K mg base 4 "exchanged" ["left", "right"] ["right", "left"] [1, 0] 0 f_exchanged []) : FnD Pr w K mg base 6 f fd ["script"] f_law :=
  fnD_of (Pn := [0]) F sc_law (by decide) fun cdv A outer s H E hr hgd =>
  (gss_cons (gs_set 1 (ge_use (ge_fn tkx hgd h__law_begun (hr.mono (by decide)) (ga_cons (ge_var 0) ga_nil))) sc_law.nd)
  (gss_cons (gs_for pox rfl (gi_rng1 T.z_range (ga_cons (ge_op op_addA os_add ge_int (ge_min2 T.z_min rfl (ga_cons (ge_len T.z_len (ga_cons (ge_var 0) ga_nil)) (ga_cons ge_int ga_nil)))) ga_nil)) (gg_name 2 sc_law.nd)
  (gss_cons (gs_par3 3 4 5 rfl sc_law.nd (gau_cons (ge_use (ge_fn tkx hgd h__law_holder (hr.mono (by decide)) (ga_cons (ge_var 1) ga_nil))) (gau_cons (ge_use (ge_fn tkx hgd h__law_holder (hr.mono (by decide)) (ga_cons (ge_var 1) ga_nil))) (gau_cons (ge_use (ge_fn tkx hgd h__law_holder (hr.mono (by decide)) (ga_cons (ge_var 1) ga_nil))) gau_nil))))
  (gss_cons (gs_asg (ge_use (ge_fn tkx hgd h__law_pair (hr.mono (by decide)) (ga_cons (ge_var 3) (ga_cons (ge_var 4) ga_nil)))) (gg_tup rfl (ggs_cons (gg_name 6 sc_law.nd) (ggs_cons (gg_name 7 sc_law.nd) (ggs_cons (gg_name 8 sc_law.nd) ggs_nil)))))
  (gss_cons (gs_set 9 (ge_use (ge_tup (gau_cons (ge_use (ge_var 6)) (gau_cons (ge_use (ge_var 7)) gau_nil)))) sc_law.nd)
  (gss_cons (gs_if (gt_w (gw_or (gt_cmp (op_neA (hu64 hr)) os_neA (ge_repr T.z_repr hgd (hu66 hr) (ga_cons (ge_fn tkx hgd h_exchanged (hr.mono (by decide)) (ga_cons (ge_var 3) (ga_cons (ge_var 4) ga_nil))) ga_nil)) (ge_repr T.z_repr hgd (hu66 hr) (ga_cons (ge_var 9) ga_nil)) (h1 := fNeA_un1) (h2 := fNeA_un2)) (gw_or1 (gt_cmp (op_neA (hu64 hr)) os_neA (ge_fnK0 tkx hgd hk_exchanged_0 (hr.mono (by decide)) (gk_cons (ge_use (ge_var 4)) (gk_cons (ge_use (ge_var 3)) gk_nil)) (LenIs.cons (LenIs.cons LenIs.nil))) (ge_var 9) (h1 := fNeA_un1) (h2 := fNeA_un2)))))
  (gss_one (gs_ret ge_bl))
  gss_nil)
  (gss_cons (gs_if (gt_cmp (op_neA (hu64 hr)) os_neA (ge_fn tkx hgd h_exchanged (hr.mono (by decide)) (ga_cons (ge_var 6) (ga_cons (ge_var 7) ga_nil))) (ge_tup (gau_cons (ge_use (ge_var 3)) (gau_cons (ge_use (ge_var 4)) gau_nil))) (h1 := fNeA_un1) (h2 := fNeA_un2))
  (gss_one (gs_ret ge_bl))
  gss_nil)
  (gss_cons (gs_set 10 (ge_use (ge_fn tkx hgd h__law_turned (hr.mono (by decide)) (ga_cons (ge_list (gau_cons (ge_use (ge_var 3)) (gau_cons (ge_use (ge_var 4)) (gau_cons (ge_use (ge_var 5)) gau_nil)))) (ga_cons (ge_list (gau_cons (ge_use ge_int) (gau_cons (ge_use ge_int) (gau_cons (ge_use ge_int) gau_nil)))) ga_nil)))) sc_law.nd)
  (gss_cons (gs_if (gt_w (gw_or (gt_cmp op_isN os_is (ge_var 10) ge_non) (gw_or1 (gt_cmp (op_neA (hu64 hr)) os_neA (ge_var 10) (ge_fn tkx hgd h__law_turned (hr.mono (by decide)) (ga_cons (ge_list (gau_cons (ge_use (ge_var 3)) (gau_cons (ge_use (ge_var 4)) (gau_cons (ge_use (ge_var 5)) gau_nil)))) (ga_cons (ge_list (gau_cons (ge_use ge_int) (gau_cons (ge_use ge_int) (gau_cons (ge_use ge_int) gau_nil)))) ga_nil))) (h1 := fNeA_un1) (h2 := fNeA_un2)))))
  (gss_one (gs_ret ge_bl))
  gss_nil)
  (gss_cons (gs_set 11 (ge_use (ge_list (gau_cons (ge_use ge_non) (gau_cons (ge_use ge_int) (gau_cons (ge_use (ge_tup gau_nil)) (gau_cons (ge_use (ge_tup (gau_cons (ge_use ge_int) gau_nil))) (gau_cons (ge_use (ge_tup (gau_cons (ge_use ge_int) (gau_cons (ge_use ge_int) (gau_cons (ge_use ge_int) gau_nil))))) (gau_cons (ge_use (geu_ge (ge_fz (ge_use (ge_list (gau_cons (ge_use ge_int) (gau_cons (ge_use ge_int) gau_nil))))))) (gau_cons (ge_use (ge_tup (gau_cons (ge_use ge_int) (gau_cons (ge_use ge_int) gau_nil)))) (gau_cons (ge_use (ge_tup (gau_cons (ge_use ge_int) (gau_cons (ge_use ge_int) gau_nil)))) (gau_cons (ge_use (ge_tup (gau_cons (ge_use ge_int) (gau_cons (ge_use ge_int) gau_nil)))) (gau_cons (ge_use (ge_tup (gau_cons (ge_use ge_int) (gau_cons (ge_use (ge_un un_neg us_neg ge_int)) gau_nil)))) (gau_cons (ge_use (ge_tup (gau_cons (ge_use ge_bl) (gau_cons (ge_use ge_int) gau_nil)))) (gau_cons (ge_use (ge_tup (gau_cons (ge_use ge_int) (gau_cons (ge_use ge_bl) gau_nil)))) (gau_cons (ge_use (ge_tup (gau_cons (ge_use ge_str) (gau_cons (ge_use ge_int) gau_nil)))) gau_nil))))))))))))))) sc_law.nd)
  (gss_cons (gs_set 12 (ge_use (ge_fn tkx hgd h__law_pick (hr.mono (by decide)) (ga_cons (ge_var 1) (ga_cons (ge_op op_addA os_add (ge_var 11) (ge_list (gau_cons (ge_use (ge_tup (gau_cons (ge_use ge_int) (gau_cons (ge_use ge_non) gau_nil)))) (gau_cons (ge_use (geu_ge (ge_fz (ge_use ge_dnew)))) (gau_cons (ge_use ge_str) (gau_cons (ge_use (ge_tup (gau_cons (ge_use (ge_op op_pow os_pow ge_int ge_int)) (gau_cons (ge_use ge_int) gau_nil)))) (gau_cons (ge_use (ge_tup (gau_cons (ge_use (ge_tup (gau_cons (ge_use ge_int) (gau_cons (ge_use ge_int) gau_nil)))) (gau_cons (ge_use ge_int) gau_nil)))) gau_nil))))))) ga_nil)))) sc_law.nd)
  (gss_one (gs_if (gt_w (gw_or (gt_not (gt_val (ge_fn tkx hgd h__law_is_refused (hr.mono (by decide)) (ga_cons (ge_var 12) (ga_cons (ge_var 4) ga_nil))))) (gw_or (gt_not (gt_val (ge_fn tkx hgd h__law_is_refused (hr.mono (by decide)) (ga_cons (ge_var 3) (ga_cons (ge_var 12) ga_nil))))) (gw_or1 (gt_not (gt_val (ge_fn tkx hgd h__law_is_refused (hr.mono (by decide)) (ga_cons (ge_var 12) (ga_cons (ge_var 12) ga_nil)))))))))
  (gss_one (gs_ret ge_bl))
  gss_nil))))))))))))
  (gss_one (gs_ret ge_bl))))
end K09
set_option Elab.async false
set_option linter.all false
set_option maxRecDepth 100000
set_option maxHeartbeats 4000000
/-! K09y: three holders: the two ways round lead to the same. -/
namespace K09
def P (c n d m : Int) : Int := m - (if m < c - n then m else c - n) + (if d - m < n then d - m else n)
def Q (c n d m : Int) : Int := n + (if m < c - n then m else c - n) - (if d - m < n then d - m else n)
def U (c n d m : Int) : Int := if m < c - n then m else c - n
def Ok (c n : Int) : Prop := 1 ≤ c ∧ c ≤ 99 ∧ 0 ≤ n ∧ n ≤ c
/-- one passing: the four cases -/
def T (c n d m p q u : Int) : Prop := (n + m < c ∧ n + m ≤ d ∧ p = n ∧ q = m ∧ u = m) ∨ (n + m < c ∧ d < n + m ∧ p = d - m ∧ q = n + m + m - d ∧ u = m) ∨
  (c ≤ n + m ∧ n + m ≤ d ∧ p = m + n + n - c ∧ q = c - n ∧ u = c - n) ∨ (c ≤ n + m ∧ d < n + m ∧ p = n + d - c ∧ q = c + m - d ∧ u = c - n)
theorem t_ok (c n d m : Int) : T c n d m (P c n d m) (Q c n d m) (U c n d m) := by
  unfold T P Q U
  by_cases h1 : m < c - n
  · rw [if_pos h1]
    by_cases h2 : d - m < n
    · rw [if_pos h2]; exact .inr (.inl ⟨by omega, by omega, by omega, by omega, rfl⟩)
    · rw [if_neg h2]; exact .inl ⟨by omega, by omega, by omega, by omega, rfl⟩
  · rw [if_neg h1]
    by_cases h2 : d - m < n
    · rw [if_pos h2]; exact .inr (.inr (.inr ⟨by omega, by omega, by omega, by omega, rfl⟩))
    · rw [if_neg h2]; exact .inr (.inr (.inl ⟨by omega, by omega, by omega, by omega, rfl⟩))
theorem core {a x b y c z p1 q1 u1 p2 q2 u2 p3 q3 u3 r1 s1 w1 r2 s2 w2 r3 s3 w3 : Int} (ax : 0 ≤ x ∧ x ≤ a) (bx : 0 ≤ y ∧ y ≤ b) (cx : 0 ≤ z ∧ z ≤ c)
    (h1 : T a x b y p1 q1 u1) (h2 : T a q1 c z p2 q2 u2) (h3 : T b p1 c p2 p3 q3 u3) (g1 : T b y c z r1 s1 w1) (g2 : T a x c r1 r2 s2 w2) (g3 : T a s2 b s1 r3 s3 w3) :
    p3 = r2 ∧ q3 = r3 ∧ q2 = s3 ∧ u2 + u3 = w1 + w2 ∧ u1 - u3 = w3 - w1 ∧ u1 + u2 = w2 + w3 := by
  unfold T at *
  rcases h1 with ⟨_, _, e1, e2, e3⟩ | ⟨_, _, e1, e2, e3⟩ | ⟨_, _, e1, e2, e3⟩ | ⟨_, _, e1, e2, e3⟩ <;> subst e1 <;> subst e2 <;> subst e3 <;>
  (rcases h2 with ⟨_, _, e1, e2, e3⟩ | ⟨_, _, e1, e2, e3⟩ | ⟨_, _, e1, e2, e3⟩ | ⟨_, _, e1, e2, e3⟩ <;> subst e1 <;> subst e2 <;> subst e3) <;>
  (first
    | (exfalso; omega)
    | ((rcases g1 with ⟨_, _, e1, e2, e3⟩ | ⟨_, _, e1, e2, e3⟩ | ⟨_, _, e1, e2, e3⟩ | ⟨_, _, e1, e2, e3⟩ <;> subst e1 <;> subst e2 <;> subst e3) <;>
      (first
        | (exfalso; omega)
        | ((rcases h3 with ⟨_, _, e1, e2, e3⟩ | ⟨_, _, e1, e2, e3⟩ | ⟨_, _, e1, e2, e3⟩ | ⟨_, _, e1, e2, e3⟩ <;> subst e1 <;> subst e2 <;> subst e3) <;>
          (first
            | (clear g2 g3; exfalso; omega)
            | ((rcases g2 with ⟨_, _, e1, e2, e3⟩ | ⟨_, _, e1, e2, e3⟩ | ⟨_, _, e1, e2, e3⟩ | ⟨_, _, e1, e2, e3⟩ <;> subst e1 <;> subst e2 <;> subst e3) <;>
              (first
                | (clear g3; exfalso; omega)
                | ((rcases g3 with ⟨_, _, e1, e2, e3⟩ | ⟨_, _, e1, e2, e3⟩ | ⟨_, _, e1, e2, e3⟩ | ⟨_, _, e1, e2, e3⟩ <;> subst e1 <;> subst e2 <;> subst e3) <;>
                  (refine ⟨?_, ?_, ?_, ?_, ?_, ?_⟩ <;> omega)))))))))
theorem ybe {a x b y c z : Int} (h : Ok a x) (h2 : Ok b y) (h3 : Ok c z) : P b (P a x b y) c (P a (Q a x b y) c z) = P a x c (P b y c z) ∧ Q b (P a x b y) c (P a (Q a x b y) c z) = P a (Q a x c (P b y c z)) b (Q b y c z) ∧
    Q a (Q a x b y) c z = Q a (Q a x c (P b y c z)) b (Q b y c z) ∧ U a (Q a x b y) c z + U b (P a x b y) c (P a (Q a x b y) c z) = U b y c z + U a x c (P b y c z) ∧
    U a x b y - U b (P a x b y) c (P a (Q a x b y) c z) = U a (Q a x c (P b y c z)) b (Q b y c z) - U b y c z ∧ U a x b y + U a (Q a x b y) c z = U a x c (P b y c z) + U a (Q a x c (P b y c z)) b (Q b y c z) :=
  core (a := a) (x := x) (b := b) (y := y) (c := c) (z := z) ⟨h.2.2.1, h.2.2.2⟩ ⟨h2.2.2.1, h2.2.2.2⟩ ⟨h3.2.2.1, h3.2.2.2⟩ (t_ok a x b y) (t_ok a (Q a x b y) c z) (t_ok b (P a x b y) c (P a (Q a x b y) c z)) (t_ok b y c z) (t_ok a x c (P b y c z)) (t_ok a (Q a x c (P b y c z)) b (Q b y c z))
theorem ybe1 {a x b y c z : Int} (h : Ok a x) (h2 : Ok b y) (h3 : Ok c z) : P b (P a x b y) c (P a (Q a x b y) c z) = P a x c (P b y c z) := (ybe h h2 h3).1
theorem ybe2 {a x b y c z : Int} (h : Ok a x) (h2 : Ok b y) (h3 : Ok c z) : Q b (P a x b y) c (P a (Q a x b y) c z) = P a (Q a x c (P b y c z)) b (Q b y c z) := (ybe h h2 h3).2.1
theorem ybe3 {a x b y c z : Int} (h : Ok a x) (h2 : Ok b y) (h3 : Ok c z) : Q a (Q a x b y) c z = Q a (Q a x c (P b y c z)) b (Q b y c z) := (ybe h h2 h3).2.2.1
theorem ybe4 {a x b y c z : Int} (h : Ok a x) (h2 : Ok b y) (h3 : Ok c z) : U a (Q a x b y) c z + U b (P a x b y) c (P a (Q a x b y) c z) = U b y c z + U a x c (P b y c z) := (ybe h h2 h3).2.2.2.1
theorem ybe5 {a x b y c z : Int} (h : Ok a x) (h2 : Ok b y) (h3 : Ok c z) : U a x b y - U b (P a x b y) c (P a (Q a x b y) c z) = U a (Q a x c (P b y c z)) b (Q b y c z) - U b y c z := (ybe h h2 h3).2.2.2.2.1
theorem ybe6 {a x b y c z : Int} (h : Ok a x) (h2 : Ok b y) (h3 : Ok c z) : U a x b y + U a (Q a x b y) c z = U a x c (P b y c z) + U a (Q a x c (P b y c z)) b (Q b y c z) := (ybe h h2 h3).2.2.2.2.2
end K09
set_option Elab.async false
set_option linter.all false
set_option maxRecDepth 100000
set_option maxHeartbeats 4000000
/-! K09p: what the defs of k09 answer, in plain Lean. -/
namespace K09
open PySem L2 DL

/-! ### is_holder, exchanged -/
def isH : D → Bool
  | .tup [x, y] => (match x with
    | .int v => bet 1 99 (.int v) && bet 0 v y
    | _ => false)
  | _ => false
/-- what is drawn: frozen, of a told type, and a pair's parts are so, too -/
def sm2 (d : D) : Bool := sm d && (match d with
  | .tup [x, y] => sm x && sm y
  | _ => true)
theorem isH_inv {d : D} (h : isH d = true) : ∃ c n : Int, d = .tup [.int c, .int n] ∧ 1 ≤ c ∧ c ≤ 99 ∧ 0 ≤ n ∧ n ≤ c := by
  unfold isH at h
  split at h
  · split at h
    · rw [Bool.and_eq_true] at h
      obtain ⟨c, e, h1, h2⟩ := bet_inv h.1
      cases e
      obtain ⟨n, rfl, h3, h4⟩ := bet_inv h.2
      exact ⟨_, n, rfl, h1, h2, h3, h4⟩
    · cases h
  · cases h
theorem holder_ok {d : D} (h : sm2 d = true) : f_is_holder [d] = .ok (.bl (isH d)) [d] := by
  unfold sm2 at h
  rw [Bool.and_eq_true] at h
  obtain ⟨h1, h2, h3, t, ht⟩ := sm_un h.1
  unfold f_is_holder b_is_holder
  cases d with
  | tup xs =>
    match xs, h.2 with
    | [], _ => simp [kitT, isH]
    | [x], _ => simp at h1; simp [kitT, isH, h1]
    | [x, y], hh =>
      have hh2 : (sm x && sm y) = true := hh
      rw [Bool.and_eq_true] at hh2
      obtain ⟨x1, x2, x3, _⟩ := sm_un hh2.1
      obtain ⟨y1, y2, y3, _⟩ := sm_un hh2.2
      have ex := between_ok (lo := 1) (hi := 99) hh2.1
      by_cases hb : bet 1 99 x = true
      · obtain ⟨v, rfl, v1, v2⟩ := bet_inv hb
        have ey := between_ok (lo := 0) (hi := v) hh2.2
        simp [kitT, isH, ex, ey, hb, atI, ixN, y1, y2, y3]
      · have e0 : isH (.tup [x, y]) = false := by
          unfold isH
          cases x with
          | int v => simp at hb ⊢; simp [hb]
          | _ => rfl
        simp [kitT, e0, ex, hb, atI, ixN, x1, x2, x3, y1, y2, y3]
    | x :: y :: z :: r, _ =>
      have e0 : isH (.tup (x :: y :: z :: r)) = false := rfl
      have e1 : ¬ ((r.length : Int) + 1 + 1 + 1 = 2) := by omega
      simp at h1
      simp [kitT, e0, h1, e1]
  | lst o xs => simp at h1; simp [kitT, isH, h1]
  | dct o ks xs => simp at h1; simp [kitT, isH, h1]
  | non => simp [kitT, isH]
  | bl b => simp [kitT, isH]
  | int i => simp [kitT, isH]
  | str x => simp [kitT, isH]
  | _ => simp at ht
theorem pas_PQ {c n d m : Int} : pas c n d m = .tup [.int (P c n d m), .int (Q c n d m)] := rfl
def hol (c n : Int) : D := .tup [.int c, .int n]
theorem hol_ok {c n : Int} (h : Ok c n) : isH (hol c n) = true := by
  obtain ⟨h1, h2, h3, h4⟩ := h
  unfold hol isH bet
  simp [h1, h2, h3, h4]
theorem hol_sm {c n : Int} : sm2 (hol c n) = true := rfl
theorem PQ_ok {c n d m : Int} (h : Ok c n) (k : Ok d m) : Ok d (P c n d m) ∧ Ok c (Q c n d m) := by
  unfold Ok P Q at *
  omega
theorem ex_ok {c n d m : Int} (h : Ok c n) (k : Ok d m) : f_exchanged [hol c n, hol d m] = .ok (.tup [hol d (P c n d m), hol c (Q c n d m)]) [hol c n, hol d m] := by
  have e1 := holder_ok (d := hol c n) rfl
  have e2 := holder_ok (d := hol d m) rfl
  rw [hol_ok h] at e1
  rw [hol_ok k] at e2
  have e3 := passage_ok (a := c) (b := n) (c := d) (d := m)
  rw [pas_PQ] at e3
  unfold f_exchanged b_exchanged
  unfold hol at *
  simp [e1, e2, e3, atI, ixN, sizeLine_eq]
theorem ex_bad {a b : D} (ha : sm2 a = true) (hb : sm2 b = true) (h : isH a = false ∨ isH b = false) : f_exchanged [a, b] = .er "BadHolder" [] [] [a, b] := by
  have e1 := holder_ok ha
  have e2 := holder_ok hb
  unfold sm2 at ha hb
  rw [Bool.and_eq_true] at ha hb
  obtain ⟨a1, a2, a3, _⟩ := sm_un ha.1
  obtain ⟨b1, b2, b3, _⟩ := sm_un hb.1
  unfold f_exchanged b_exchanged
  cases i1 : isH a with
  | false =>
    rw [i1] at e1
    simp [e1, a1, a2, a3, b1, b2, b3]
  | true =>
    have i2 : isH b = false := h.resolve_left (by rw [i1]; exact fun z => nomatch z)
    rw [i1] at e1
    rw [i2] at e2
    simp [e1, e2, a1, a2, a3, b1, b2, b3]
/-! ### the law's own defs -/
theorem lp_ok {a b c d : Int} : f__law_passed [.int a, .int b, .int c, .int d] = .ok (.tup [.int (P a b c d), .int (Q a b c d)]) [.int a, .int b, .int c, .int d] := by
  unfold f__law_passed b__law_passed P Q
  simp [sizeLine_eq]
theorem pair_ok {c n d m : Int} : f__law_pair [hol c n, hol d m] = .ok (.tup [hol d (P c n d m), hol c (Q c n d m), .int (U c n d m)]) [hol c n, hol d m] := by
  have e := lp_ok (a := c) (b := n) (c := d) (d := m)
  unfold f__law_pair b__law_pair hol U
  simp [e, atI, ixN, sizeLine_eq]
theorem refused_ok {a b : D} (ha : sm2 a = true) (hb : sm2 b = true) (h : isH a = false ∨ isH b = false) : f__law_is_refused [a, b] = .ok (.bl true) [a, b] := by
  have e := ex_bad ha hb h
  unfold sm2 at ha hb
  rw [Bool.and_eq_true] at ha hb
  obtain ⟨a1, a2, a3, _⟩ := sm_un ha.1
  obtain ⟨b1, b2, b3, _⟩ := sm_un hb.1
  have lk : (t_ScoopError.lookup ("BadHolder" : Str)) = some true := by decide +kernel
  have lk2 : (i_BadHolder.lookup ("BadHolder" : Str)) = some true := by decide +kernel
  unfold f__law_is_refused b__law_is_refused
  simp [e, a1, a2, a3, b1, b2, b3, lk, lk2, fIsE]
theorem mkholder_ok {N : Nat} {s : D} (hs : IsSt N s) (hN : N < 2 ^ 39) : ∃ c n s', Ok c n ∧ IsSt (N + 4) s' ∧ f__law_holder [s] = .ok (hol c n) [s'] := by
  obtain ⟨f1, f2, f3⟩ := hs.fz
  obtain ⟨k1, s1, h1, k1a, k1b, e1⟩ := take_ok (size := 99) hs (by omega) (by omega) (by omega)
  obtain ⟨f11, f12, f13⟩ := h1.fz
  obtain ⟨x2, s2, h2, m2, _, e2⟩ := pick_ok (o := true) (xs := [.int 1, .int 1, .int 2, .int 3, .int 9, .int 99, .int (1 + k1)]) h1 (by omega) (by simp) (by simp) (by simp)
  obtain ⟨m, rfl, ma, mb⟩ : ∃ m, x2 = .int m ∧ 1 ≤ m ∧ m ≤ 99 := by
    simp at m2
    rcases m2 with h | h | h | h | h | h
    all_goals exact ⟨_, h, by omega, by omega⟩
  obtain ⟨f21, f22, f23⟩ := h2.fz
  obtain ⟨k3, s3, h3, k3a, k3b, e3⟩ := take_ok (size := m + 1) h2 (by omega) (by omega) (by omega)
  obtain ⟨f31, f32, f33⟩ := h3.fz
  obtain ⟨x4, s4, h4, m4, _, e4⟩ := pick_ok (o := true) (xs := [.int 0, .int m, .int k3]) h3 (by omega) (by simp) (by simp) (by simp)
  obtain ⟨n, rfl, na, nb⟩ : ∃ n, x4 = .int n ∧ 0 ≤ n ∧ n ≤ m := by
    simp at m4
    rcases m4 with h | h | h
    all_goals exact ⟨_, h, by omega, by omega⟩
  obtain ⟨f41, f42, f43⟩ := h4.fz
  refine ⟨m, n, s4, ⟨ma, mb, na, nb⟩, h4.mono (by omega), ?_⟩
  unfold f__law_holder b__law_holder hol
  simp [e1, e2, e3, e4, f1, f2, f3, f11, f12, f13, f21, f22, f23, f31, f32, f33, f41, f42, f43, sizeLine_eq]
/-! ### three holders, turned round -/
def tr (c n i g : Int) : D := .tup [hol c n, .int i, .int g]
@[simp] theorem froz_hol {c n : Int} : froz (hol c n) = true := by unfold hol; simp
@[simp] theorem fz_hol {c n : Int} : fz (hol c n) = hol c n := by unfold hol; simp
@[simp] theorem isUn_hol {c n : Int} : isUn (hol c n) = false := by unfold hol; simp
@[simp] theorem isSl_hol {c n : Int} : isSl (hol c n) = false := by unfold hol; simp
@[simp] theorem froz_tr {c n i g : Int} : froz (tr c n i g) = true := by unfold tr; simp
@[simp] theorem fz_tr {c n i g : Int} : fz (tr c n i g) = tr c n i g := by unfold tr; simp
@[simp] theorem isUn_tr {c n i g : Int} : isUn (tr c n i g) = false := by unfold tr; simp
@[simp] theorem isSl_tr {c n i g : Int} : isSl (tr c n i g) = false := by unfold tr; simp
theorem step0 {z0 z1 t2 s4 s5 s6 s7 s8 s9 s10 s11 s12 s13 : D} {a x b y i g j h : Int} (ha : Ok a x) (hb : Ok b y) :
    b__law_turned_2_b [z0, z1, .lst true [tr a x i g, tr b y j h, t2], .int 0, s4, s5, s6, s7, s8, s9, s10, s11, s12, s13] =
      .nx [z0, z1, .lst true [tr b (P a x b y) j (h + U a x b y), tr a (Q a x b y) i (g - U a x b y), t2], .int 0, hol a x, .int i, .int g, hol b y, .int j, .int h, hol b (P a x b y), hol a (Q a x b y), .int (U a x b y), s13] := by
  have e1 := pair_ok (c := a) (n := x) (d := b) (m := y)
  have e2 := ex_ok ha hb
  have e3 : fNeA (.tup [hol b (P a x b y), hol a (Q a x b y)]) (.tup [hol b (P a x b y), hol a (Q a x b y)]) = some (.bl false) := fNeA_same rfl (by simp [dep, depL, hol]) rfl
  unfold b__law_turned_2_b b__law_turned_2_1 b__law_turned_2_2 b__law_turned_2_3 b__law_turned_2_4
  unfold tr hol at *
  simp [e1, e2, e3, atI, ixN, sizeLine_eq, tgSub]
theorem step1 {z0 z1 t0 s4 s5 s6 s7 s8 s9 s10 s11 s12 s13 : D} {a x b y i g j h : Int} (ha : Ok a x) (hb : Ok b y) :
    b__law_turned_2_b [z0, z1, .lst true [t0, tr a x i g, tr b y j h], .int 1, s4, s5, s6, s7, s8, s9, s10, s11, s12, s13] =
      .nx [z0, z1, .lst true [t0, tr b (P a x b y) j (h + U a x b y), tr a (Q a x b y) i (g - U a x b y)], .int 1, hol a x, .int i, .int g, hol b y, .int j, .int h, hol b (P a x b y), hol a (Q a x b y), .int (U a x b y), s13] := by
  have e1 := pair_ok (c := a) (n := x) (d := b) (m := y)
  have e2 := ex_ok ha hb
  have e3 : fNeA (.tup [hol b (P a x b y), hol a (Q a x b y)]) (.tup [hol b (P a x b y), hol a (Q a x b y)]) = some (.bl false) := fNeA_same rfl (by simp [dep, depL, hol]) rfl
  unfold b__law_turned_2_b b__law_turned_2_1 b__law_turned_2_2 b__law_turned_2_3 b__law_turned_2_4
  unfold tr hol at *
  simp [e1, e2, e3, atI, ixN, sizeLine_eq, tgSub]
theorem comp_ok {o : Bool} {a x b y c z : Int} {z1 s2 s3 s4 s5 s6 s7 s8 s9 s10 s11 s12 s13 : D} :
    c__law_turned_1 [.lst o [hol a x, hol b y, hol c z], z1, s2, s3, s4, s5, s6, s7, s8, s9, s10, s11, s12, s13] = .ok (.lst true [tr a x 0 0, tr b y 1 0, tr c z 2 0]) [.lst false [hol a x, hol b y, hol c z], z1, s2, .un, s4, s5, s6, s7, s8, s9, s10, s11, s12, .un] := by
  have h100 : 0 < sizeLine ∧ 1 < sizeLine ∧ 2 < sizeLine ∧ 3 ≤ sizeLine := by rw [sizeLine_eq]; omega
  obtain ⟨g0, g1, g2, g3⟩ := h100
  unfold c__law_turned_1 dLc tr hol
  cases o <;> simp [compD, enumD, wipeE, g0, g1, g2, g3]
theorem turned1 {a x b y c z : Int} (ha : Ok a x) (hb : Ok b y) (hc : Ok c z) :
    f__law_turned [.lst true [hol a x, hol b y, hol c z], .lst true [.int 0, .int 1, .int 0]] =
      .ok (.lst true [tr c (P b (P a x b y) c (P a (Q a x b y) c z)) 2 (0 + U a (Q a x b y) c z + U b (P a x b y) c (P a (Q a x b y) c z)), tr b (Q b (P a x b y) c (P a (Q a x b y) c z)) 1 (0 + U a x b y - U b (P a x b y) c (P a (Q a x b y) c z)), tr a (Q a (Q a x b y) c z) 0 (0 - U a x b y - U a (Q a x b y) c z)])
        [.lst false [hol a x, hol b y, hol c z], .lst false [.int 0, .int 1, .int 0]] := by
  obtain ⟨p1, q1⟩ := PQ_ok ha hb
  obtain ⟨p2, q2⟩ := PQ_ok q1 hc
  unfold f__law_turned b__law_turned b__law_turned_1 b__law_turned_2 b__law_turned_3
  simp [comp_ok, forD, step0, step1, ha, hb, hc, p1, q1, p2, q2]
  done
theorem turned2 {a x b y c z : Int} (ha : Ok a x) (hb : Ok b y) (hc : Ok c z) :
    f__law_turned [.lst true [hol a x, hol b y, hol c z], .lst true [.int 1, .int 0, .int 1]] =
      .ok (.lst true [tr c (P a x c (P b y c z)) 2 (0 + U b y c z + U a x c (P b y c z)), tr b (P a (Q a x c (P b y c z)) b (Q b y c z)) 1 (0 - U b y c z + U a (Q a x c (P b y c z)) b (Q b y c z)), tr a (Q a (Q a x c (P b y c z)) b (Q b y c z)) 0 (0 - U a x c (P b y c z) - U a (Q a x c (P b y c z)) b (Q b y c z))])
        [.lst false [hol a x, hol b y, hol c z], .lst false [.int 1, .int 0, .int 1]] := by
  obtain ⟨p1, q1⟩ := PQ_ok hb hc
  obtain ⟨p2, q2⟩ := PQ_ok ha p1
  unfold f__law_turned b__law_turned b__law_turned_1 b__law_turned_2 b__law_turned_3
  simp [comp_ok, forD, step0, step1, ha, hb, hc, p1, q1, p2, q2]
  done
/-! ### the law's turn -/
def odds : List D := [.non, .int 5, .tup [], .tup [.int 1], .tup [.int 1, .int 0, .int 0], .lst false [.int 1, .int 0], .tup [.int 0, .int 0], .tup [.int 100, .int 1], .tup [.int 2, .int 3], .tup [.int 2, .int (-1)], .tup [.bl true, .int 0], .tup [.int 2, .bl true], .tup [.str "2", .int 1], .tup [.int 2, .non], .dct false [] [], .str "ab", .tup [.int 1000000000000000000000000000000, .int 1], .tup [.tup [.int 1, .int 0], .int 0]]
theorem odds_ok : ∀ d ∈ odds, sm2 d = true ∧ isH d = false := by
  intro d hd
  unfold odds at hd
  simp at hd
  rcases hd with h | h | h | h | h | h | h | h | h | h | h | h | h | h | h | h | h | h <;> rw [h] <;> exact ⟨rfl, by decide⟩
theorem turn_ok {N : Nat} {s0 : D} {ns : List Int} {t : Int} {y3 y4 y5 y6 y7 y8 y9 y10 y11 y12 : D} (hs : IsSt N s0) (hN : N < 2 ^ 38) :
    ∃ s' z3 z4 z5 z6 z7 z8 z9 z10 z11 z12, b_law_2_b [.scr ns, s0, .int t, y3, y4, y5, y6, y7, y8, y9, y10, y11, y12] = .nx [.scr ns, s', .int t, z3, z4, z5, z6, z7, z8, z9, z10, z11, z12] ∧ IsSt (N + 20) s' := by
  obtain ⟨f1, f2, f3⟩ := hs.fz
  obtain ⟨a, x, s1, ha, h1, e1⟩ := mkholder_ok hs (by omega)
  obtain ⟨f11, f12, f13⟩ := h1.fz
  obtain ⟨b, y, s2, hb, h2, e2⟩ := mkholder_ok h1 (by omega)
  obtain ⟨f21, f22, f23⟩ := h2.fz
  obtain ⟨c, z, s3, hc, h3, e3⟩ := mkholder_ok h2 (by omega)
  obtain ⟨f31, f32, f33⟩ := h3.fz
  obtain ⟨d, s4, h4, md, fd, e4⟩ := pick_ok (o := true) (xs := odds) h3 (by omega) (by decide) (by decide) (by decide +kernel)
  obtain ⟨f41, f42, f43⟩ := h4.fz
  obtain ⟨sd, nd⟩ := odds_ok d md
  have sdd := sd
  unfold sm2 at sdd
  rw [Bool.and_eq_true] at sdd
  obtain ⟨d1, d2, d3, _⟩ := sm_un sdd.1
  have r1 := refused_ok (a := d) (b := hol b y) sd hol_sm (.inl nd)
  have r2 := refused_ok (a := hol a x) (b := d) hol_sm sd (.inr nd)
  have r3 := refused_ok (a := d) (b := d) sd sd (.inl nd)
  have ep := pair_ok (c := a) (n := x) (d := b) (m := y)
  have ee := ex_ok ha hb
  obtain ⟨hp, hq⟩ := PQ_ok ha hb
  have ee2 := ex_ok hp hq
  have back : P b (P a x b y) a (Q a x b y) = x ∧ Q b (P a x b y) a (Q a x b y) = y := by
    unfold Ok P Q at *
    omega
  rw [back.1, back.2] at ee2
  have same : ∀ {u v : D}, okE u = true → dep u ≤ 64 → toPy u = toPy v → fNeA u v = some (.bl false) := fun h1 h2 h3 => fNeA_same h1 h2 h3
  have n1 : fNeA (.tup [hol b (P a x b y), hol a (Q a x b y)]) (.tup [hol b (P a x b y), hol a (Q a x b y)]) = some (.bl false) := fNeA_same rfl (by simp [dep, depL, hol]) rfl
  have n2 : fNeA (.tup [hol a x, hol b y]) (.tup [hol a x, hol b y]) = some (.bl false) := fNeA_same rfl (by simp [dep, depL, hol]) rfl
  have t1 := turned1 ha hb hc
  have t2 := turned2 ha hb hc
  rw [ybe1 ha hb hc, ybe2 ha hb hc, ybe3 ha hb hc] at t1
  have g1 : 0 + U a (Q a x b y) c z + U b (P a x b y) c (P a (Q a x b y) c z) = 0 + U b y c z + U a x c (P b y c z) := by have := ybe4 ha hb hc; omega
  have g2 : 0 + U a x b y - U b (P a x b y) c (P a (Q a x b y) c z) = 0 - U b y c z + U a (Q a x c (P b y c z)) b (Q b y c z) := by have := ybe5 ha hb hc; omega
  have g3 : 0 - U a x b y - U a (Q a x b y) c z = 0 - U a x c (P b y c z) - U a (Q a x c (P b y c z)) b (Q b y c z) := by have := ybe6 ha hb hc; omega
  rw [g1, g2, g3] at t1
  have n3 : ∀ (u v w : D), okE u = true → okE v = true → okE w = true → dep u ≤ 3 → dep v ≤ 3 → dep w ≤ 3 → fNeA (.lst true [u, v, w]) (.lst true [u, v, w]) = some (.bl false) := fun u v w o1 o2 o3 d1 d2 d3 => by
    refine fNeA_same ?_ ?_ rfl
    · unfold okE okEL okEL okEL okEL; rw [o1, o2, o3]; rfl
    · unfold dep depL depL depL depL; omega
  have otr : ∀ {c n i g : Int}, okE (tr c n i g) = true := fun {c n i g} => rfl
  have dtr : ∀ {c n i g : Int}, dep (tr c n i g) ≤ 3 := fun {c n i g} => by simp [dep, depL, tr, hol]
  have n3' := fun {c1 n1 i1 g1 c2 n2 i2 g2 c3 n3' i3 g3 : Int} => n3 (tr c1 n1 i1 g1) (tr c2 n2 i2 g2) (tr c3 n3' i3 g3) otr otr otr dtr dtr dtr
  obtain ⟨tt, ht⟩ : ∃ t, fRepr [.tup [hol b (P a x b y), hol a (Q a x b y)]] = some (.str t) := by
    unfold Ok at ha hb hp hq
    have k1 := log2_small (i := b) (by omega)
    have k2 := log2_small (i := P a x b y) (by omega)
    have k3 := log2_small (i := a) (by omega)
    have k4 := log2_small (i := Q a x b y) (by omega)
    refine repr_ok ?_ (by simp [dep, depL, hol]) (by simp [blk, blkL, hol])
    unfold hol
    simp only [okR, okRL, k1, k2, k3, k4, Bool.and_self]
  have ec : fAdd (.lst true [.non, .int 5, .tup [], .tup [.int 1], .tup [.int 1, .int 0, .int 0], .lst false [.int 1, .int 0], .tup [.int 0, .int 0], .tup [.int 100, .int 1], .tup [.int 2, .int 3], .tup [.int 2, .int (-1)], .tup [.bl true, .int 0], .tup [.int 2, .bl true], .tup [.str "2", .int 1]])
      (.lst true [.tup [.int 2, .non], .dct false [] [], .str "ab", .tup [.int 1000000000000000000000000000000, .int 1], .tup [.tup [.int 1, .int 0], .int 0]]) = some (.lst true odds) := by
    unfold odds fAdd
    simp [fInt, fCat, sizeLine_eq]
  obtain ⟨M, t1', t2', n3L, l1, l2, l3, l4⟩ : ∃ M, f__law_turned [.lst true [hol a x, hol b y, hol c z], .lst true [.int 0, .int 1, .int 0]] = .ok M [.lst false [hol a x, hol b y, hol c z], .lst false [.int 0, .int 1, .int 0]] ∧
      f__law_turned [.lst true [hol a x, hol b y, hol c z], .lst true [.int 1, .int 0, .int 1]] = .ok M [.lst false [hol a x, hol b y, hol c z], .lst false [.int 1, .int 0, .int 1]] ∧ fNeA M M = some (.bl false) ∧ froz M = false ∧ isUn M = false ∧ isSl M = false ∧ isNone M = false := by
    refine ⟨_, t1, t2, n3', ?_, ?_, ?_, ?_⟩
    · simp
    · simp
    · simp
    · simp
  refine ⟨s4, hol a x, hol b y, hol c z, hol b (P a x b y), hol a (Q a x b y), .int (U a x b y), .tup [hol b (P a x b y), hol a (Q a x b y)], M, .lst true [.non, .int 5, .tup [], .tup [.int 1], .tup [.int 1, .int 0, .int 0], .lst false [.int 1, .int 0], .tup [.int 0, .int 0], .tup [.int 100, .int 1], .tup [.int 2, .int 3], .tup [.int 2, .int (-1)], .tup [.bl true, .int 0], .tup [.int 2, .bl true], .tup [.str "2", .int 1]], d, ?_, h4.mono (by omega)⟩
  unfold b_law_2_b b_law_2_1 b_law_2_2 b_law_2_3 b_law_2_4 b_law_2_5 b_law_2_6 b_law_2_7 b_law_2_8 b_law_2_9 b_law_2_10
  simp [e1, e2, e3, e4, f1, f2, f3, f11, f12, f13, f21, f22, f23, f31, f32, f33, f41, f42, f43, d1, d2, d3, r1, r2, r3, ep, ee, ee2, n1, n2, t1', t2', n3L, l1, l2, l3, l4, ht, ec, cPow, sizeLine_eq]
  done
theorem law_ok {ns : List Int} (h : ns.length ≤ 63) : ∃ ps, f_law [.scr ns] = .ok (.bl true) ps := by
  obtain ⟨st, hst, eb⟩ := begun_ok h
  obtain ⟨f1, f2, f3⟩ := hst.fz
  obtain ⟨e, he, s, z2, z3, z4, z5, z6, z7, z8, z9, z10, z11, z12, rfl, hs⟩ := forD_ok (tg := tgName 2) (body := b_law_2_b) (fun k env => ∃ s y2 y3 y4 y5 y6 y7 y8 y9 y10 y11 y12, env = [.scr ns, s, y2, y3, y4, y5, y6, y7, y8, y9, y10, y11, y12] ∧ IsSt (20 * k) s)
    (dints 0 (10 + min ns.length 30)) 0 [.scr ns, st, .un, .un, .un, .un, .un, .un, .un, .un, .un, .un, .un] ⟨st, .un, .un, .un, .un, .un, .un, .un, .un, .un, .un, .un, rfl, hst⟩ (by
      rintro k x e hx hk0 hk1 ⟨s, y2, y3, y4, y5, y6, y7, y8, y9, y10, y11, y12, rfl, hs⟩
      unfold dints at hx hk1
      rw [List.length_map, List.length_range] at hk1
      obtain ⟨i, _, rfl⟩ := List.mem_map.mp hx
      obtain ⟨s1, w3, w4, w5, w6, w7, w8, w9, w10, w11, w12, e1, h1⟩ := turn_ok (ns := ns) (t := 0 + (i : Int)) (y3 := y3) (y4 := y4) (y5 := y5) (y6 := y6) (y7 := y7) (y8 := y8) (y9 := y9) (y10 := y10) (y11 := y11) (y12 := y12) hs (by omega)
      exact ⟨_, _, rfl, .inl e1, s1, .int (0 + (i : Int)), w3, w4, w5, w6, w7, w8, w9, w10, w11, w12, rfl, h1.mono (by omega)⟩)
  have hm : (if (30 : Int) < ns.length then (30 : Int) else ns.length) = ((min ns.length 30 : Nat) : Int) := by
    split <;> omega
  have hr : -4611686018427387904 ≤ 10 + ((min ns.length 30 : Nat) : Int) ∧ 10 + ((min ns.length 30 : Nat) : Int) < 4611686018427387904 := by omega
  have ht : (10 + ((min ns.length 30 : Nat) : Int)).toNat = 10 + min ns.length 30 := by omega
  refine ⟨[.scr ns], ?_⟩
  unfold f_law b_law b_law_1 b_law_2 b_law_3
  simp only [fdOf, nSeq, nAsg, nFor]
  simp [eb, f1, f2, f3, hm, hr, ht, he]
end K09
set_option Elab.async false
set_option linter.all false
set_option maxRecDepth 100000
set_option maxHeartbeats 2000000
/-! printed by gen.py: the end of k09. -/
namespace K09
open PySem L2 DL
theorem all_mk {Pr : Program} {w : World} {K : PySem.W.Frag} {h : Heap} {mg : Str → Option Value} {fa : Addr} (X : K.In h) (G : h.Ns mainGlobals mg) (hfa : mg "law" = some (.ref fa))
    {fa_is_integer : Addr} {od_is_integer an_is_integer : Option Addr} {sl_is_integer : Array (Option Value)} {oc_is_integer kV_is_integer dc_is_integer pm_is_integer cd_is_integer ct_is_integer : Value}
    {fa_is_between : Addr} {od_is_between an_is_between : Option Addr} {sl_is_between : Array (Option Value)} {oc_is_between kV_is_between dc_is_between pm_is_between cd_is_between ct_is_between : Value}
    {fa_passage : Addr} {od_passage an_passage : Option Addr} {sl_passage : Array (Option Value)} {oc_passage kV_passage dc_passage pm_passage cd_passage ct_passage : Value}
    {fa_is_holder : Addr} {od_is_holder an_is_holder : Option Addr} {sl_is_holder : Array (Option Value)} {oc_is_holder kV_is_holder dc_is_holder pm_is_holder cd_is_holder ct_is_holder : Value}
    {fa_exchanged : Addr} {od_exchanged an_exchanged : Option Addr} {sl_exchanged : Array (Option Value)} {oc_exchanged kV_exchanged dc_exchanged pm_exchanged cd_exchanged ct_exchanged : Value}
    {fa__law_begun : Addr} {od__law_begun an__law_begun : Option Addr} {sl__law_begun : Array (Option Value)} {oc__law_begun kV__law_begun dc__law_begun pm__law_begun cd__law_begun ct__law_begun : Value}
    {fa__law_mixed : Addr} {od__law_mixed an__law_mixed : Option Addr} {sl__law_mixed : Array (Option Value)} {oc__law_mixed kV__law_mixed dc__law_mixed pm__law_mixed cd__law_mixed ct__law_mixed : Value}
    {fa__law_take : Addr} {od__law_take an__law_take : Option Addr} {sl__law_take : Array (Option Value)} {oc__law_take kV__law_take dc__law_take pm__law_take cd__law_take ct__law_take : Value}
    {fa__law_pick : Addr} {od__law_pick an__law_pick : Option Addr} {sl__law_pick : Array (Option Value)} {oc__law_pick kV__law_pick dc__law_pick pm__law_pick cd__law_pick ct__law_pick : Value}
    {fa__law_passed : Addr} {od__law_passed an__law_passed : Option Addr} {sl__law_passed : Array (Option Value)} {oc__law_passed kV__law_passed dc__law_passed pm__law_passed cd__law_passed ct__law_passed : Value}
    {fa__law_holder : Addr} {od__law_holder an__law_holder : Option Addr} {sl__law_holder : Array (Option Value)} {oc__law_holder kV__law_holder dc__law_holder pm__law_holder cd__law_holder ct__law_holder : Value}
    {fa__law_pair : Addr} {od__law_pair an__law_pair : Option Addr} {sl__law_pair : Array (Option Value)} {oc__law_pair kV__law_pair dc__law_pair pm__law_pair cd__law_pair ct__law_pair : Value}
    {fa__law_turned : Addr} {od__law_turned an__law_turned : Option Addr} {sl__law_turned : Array (Option Value)} {oc__law_turned kV__law_turned dc__law_turned pm__law_turned cd__law_turned ct__law_turned : Value}
    {fa__law_is_refused : Addr} {od__law_is_refused an__law_is_refused : Option Addr} {sl__law_is_refused : Array (Option Value)} {oc__law_is_refused kV__law_is_refused dc__law_is_refused pm__law_is_refused cd__law_is_refused ct__law_is_refused : Value}
    {fa_law : Addr} {od_law an_law : Option Addr} {sl_law : Array (Option Value)} {oc_law kV_law dc_law pm_law cd_law ct_law : Value}
    {tk_GREATEST_CAPACITY : Tok}
    {C_BadHolder : Addr}
    {C_ScoopError : Addr}
    (a_is_integer : PySem.W.nsIn K mainGlobals "is_integer" = some (some (.ref fa_is_integer)))
    (l_is_integer : K.lookup fa_is_integer = some ⟨oc_is_integer, od_is_integer, .func (PySem.W.fnOf "is_integer" "is_integer" (defArgs s_is_integer) (defBody s_is_integer) (defScope s_is_integer) .none kV_is_integer dc_is_integer pm_is_integer an_is_integer cd_is_integer ct_is_integer), sl_is_integer⟩)
    (c_is_integer : PySem.W.codeIn K cd_is_integer "is_integer" = true)
    (k_is_integer : PySem.W.keepIn K (.ref fa_is_integer) = true)
    (a_is_between : PySem.W.nsIn K mainGlobals "is_between" = some (some (.ref fa_is_between)))
    (l_is_between : K.lookup fa_is_between = some ⟨oc_is_between, od_is_between, .func (PySem.W.fnOf "is_between" "is_between" (defArgs s_is_between) (defBody s_is_between) (defScope s_is_between) .none kV_is_between dc_is_between pm_is_between an_is_between cd_is_between ct_is_between), sl_is_between⟩)
    (c_is_between : PySem.W.codeIn K cd_is_between "is_between" = true)
    (k_is_between : PySem.W.keepIn K (.ref fa_is_between) = true)
    (a_passage : PySem.W.nsIn K mainGlobals "passage" = some (some (.ref fa_passage)))
    (l_passage : K.lookup fa_passage = some ⟨oc_passage, od_passage, .func (PySem.W.fnOf "passage" "passage" (defArgs s_passage) (defBody s_passage) (defScope s_passage) .none kV_passage dc_passage pm_passage an_passage cd_passage ct_passage), sl_passage⟩)
    (c_passage : PySem.W.codeIn K cd_passage "passage" = true)
    (k_passage : PySem.W.keepIn K (.ref fa_passage) = true)
    (a_is_holder : PySem.W.nsIn K mainGlobals "is_holder" = some (some (.ref fa_is_holder)))
    (l_is_holder : K.lookup fa_is_holder = some ⟨oc_is_holder, od_is_holder, .func (PySem.W.fnOf "is_holder" "is_holder" (defArgs s_is_holder) (defBody s_is_holder) (defScope s_is_holder) .none kV_is_holder dc_is_holder pm_is_holder an_is_holder cd_is_holder ct_is_holder), sl_is_holder⟩)
    (c_is_holder : PySem.W.codeIn K cd_is_holder "is_holder" = true)
    (k_is_holder : PySem.W.keepIn K (.ref fa_is_holder) = true)
    (a_exchanged : PySem.W.nsIn K mainGlobals "exchanged" = some (some (.ref fa_exchanged)))
    (l_exchanged : K.lookup fa_exchanged = some ⟨oc_exchanged, od_exchanged, .func (PySem.W.fnOf "exchanged" "exchanged" (defArgs s_exchanged) (defBody s_exchanged) (defScope s_exchanged) .none kV_exchanged dc_exchanged pm_exchanged an_exchanged cd_exchanged ct_exchanged), sl_exchanged⟩)
    (c_exchanged : PySem.W.codeIn K cd_exchanged "exchanged" = true)
    (k_exchanged : PySem.W.keepIn K (.ref fa_exchanged) = true)
    (a__law_begun : PySem.W.nsIn K mainGlobals "_law_begun" = some (some (.ref fa__law_begun)))
    (l__law_begun : K.lookup fa__law_begun = some ⟨oc__law_begun, od__law_begun, .func (PySem.W.fnOf "_law_begun" "_law_begun" (defArgs s__law_begun) (defBody s__law_begun) (defScope s__law_begun) .none kV__law_begun dc__law_begun pm__law_begun an__law_begun cd__law_begun ct__law_begun), sl__law_begun⟩)
    (c__law_begun : PySem.W.codeIn K cd__law_begun "_law_begun" = true)
    (k__law_begun : PySem.W.keepIn K (.ref fa__law_begun) = true)
    (a__law_mixed : PySem.W.nsIn K mainGlobals "_law_mixed" = some (some (.ref fa__law_mixed)))
    (l__law_mixed : K.lookup fa__law_mixed = some ⟨oc__law_mixed, od__law_mixed, .func (PySem.W.fnOf "_law_mixed" "_law_mixed" (defArgs s__law_mixed) (defBody s__law_mixed) (defScope s__law_mixed) .none kV__law_mixed dc__law_mixed pm__law_mixed an__law_mixed cd__law_mixed ct__law_mixed), sl__law_mixed⟩)
    (c__law_mixed : PySem.W.codeIn K cd__law_mixed "_law_mixed" = true)
    (k__law_mixed : PySem.W.keepIn K (.ref fa__law_mixed) = true)
    (a__law_take : PySem.W.nsIn K mainGlobals "_law_take" = some (some (.ref fa__law_take)))
    (l__law_take : K.lookup fa__law_take = some ⟨oc__law_take, od__law_take, .func (PySem.W.fnOf "_law_take" "_law_take" (defArgs s__law_take) (defBody s__law_take) (defScope s__law_take) .none kV__law_take dc__law_take pm__law_take an__law_take cd__law_take ct__law_take), sl__law_take⟩)
    (c__law_take : PySem.W.codeIn K cd__law_take "_law_take" = true)
    (k__law_take : PySem.W.keepIn K (.ref fa__law_take) = true)
    (a__law_pick : PySem.W.nsIn K mainGlobals "_law_pick" = some (some (.ref fa__law_pick)))
    (l__law_pick : K.lookup fa__law_pick = some ⟨oc__law_pick, od__law_pick, .func (PySem.W.fnOf "_law_pick" "_law_pick" (defArgs s__law_pick) (defBody s__law_pick) (defScope s__law_pick) .none kV__law_pick dc__law_pick pm__law_pick an__law_pick cd__law_pick ct__law_pick), sl__law_pick⟩)
    (c__law_pick : PySem.W.codeIn K cd__law_pick "_law_pick" = true)
    (k__law_pick : PySem.W.keepIn K (.ref fa__law_pick) = true)
    (a__law_passed : PySem.W.nsIn K mainGlobals "_law_passed" = some (some (.ref fa__law_passed)))
    (l__law_passed : K.lookup fa__law_passed = some ⟨oc__law_passed, od__law_passed, .func (PySem.W.fnOf "_law_passed" "_law_passed" (defArgs s__law_passed) (defBody s__law_passed) (defScope s__law_passed) .none kV__law_passed dc__law_passed pm__law_passed an__law_passed cd__law_passed ct__law_passed), sl__law_passed⟩)
    (c__law_passed : PySem.W.codeIn K cd__law_passed "_law_passed" = true)
    (k__law_passed : PySem.W.keepIn K (.ref fa__law_passed) = true)
    (a__law_holder : PySem.W.nsIn K mainGlobals "_law_holder" = some (some (.ref fa__law_holder)))
    (l__law_holder : K.lookup fa__law_holder = some ⟨oc__law_holder, od__law_holder, .func (PySem.W.fnOf "_law_holder" "_law_holder" (defArgs s__law_holder) (defBody s__law_holder) (defScope s__law_holder) .none kV__law_holder dc__law_holder pm__law_holder an__law_holder cd__law_holder ct__law_holder), sl__law_holder⟩)
    (c__law_holder : PySem.W.codeIn K cd__law_holder "_law_holder" = true)
    (k__law_holder : PySem.W.keepIn K (.ref fa__law_holder) = true)
    (a__law_pair : PySem.W.nsIn K mainGlobals "_law_pair" = some (some (.ref fa__law_pair)))
    (l__law_pair : K.lookup fa__law_pair = some ⟨oc__law_pair, od__law_pair, .func (PySem.W.fnOf "_law_pair" "_law_pair" (defArgs s__law_pair) (defBody s__law_pair) (defScope s__law_pair) .none kV__law_pair dc__law_pair pm__law_pair an__law_pair cd__law_pair ct__law_pair), sl__law_pair⟩)
    (c__law_pair : PySem.W.codeIn K cd__law_pair "_law_pair" = true)
    (k__law_pair : PySem.W.keepIn K (.ref fa__law_pair) = true)
    (a__law_turned : PySem.W.nsIn K mainGlobals "_law_turned" = some (some (.ref fa__law_turned)))
    (l__law_turned : K.lookup fa__law_turned = some ⟨oc__law_turned, od__law_turned, .func (PySem.W.fnOf "_law_turned" "_law_turned" (defArgs s__law_turned) (defBody s__law_turned) (defScope s__law_turned) .none kV__law_turned dc__law_turned pm__law_turned an__law_turned cd__law_turned ct__law_turned), sl__law_turned⟩)
    (c__law_turned : PySem.W.codeIn K cd__law_turned "_law_turned" = true)
    (k__law_turned : PySem.W.keepIn K (.ref fa__law_turned) = true)
    (a__law_is_refused : PySem.W.nsIn K mainGlobals "_law_is_refused" = some (some (.ref fa__law_is_refused)))
    (l__law_is_refused : K.lookup fa__law_is_refused = some ⟨oc__law_is_refused, od__law_is_refused, .func (PySem.W.fnOf "_law_is_refused" "_law_is_refused" (defArgs s__law_is_refused) (defBody s__law_is_refused) (defScope s__law_is_refused) .none kV__law_is_refused dc__law_is_refused pm__law_is_refused an__law_is_refused cd__law_is_refused ct__law_is_refused), sl__law_is_refused⟩)
    (c__law_is_refused : PySem.W.codeIn K cd__law_is_refused "_law_is_refused" = true)
    (k__law_is_refused : PySem.W.keepIn K (.ref fa__law_is_refused) = true)
    (a_law : PySem.W.nsIn K mainGlobals "law" = some (some (.ref fa_law)))
    (l_law : K.lookup fa_law = some ⟨oc_law, od_law, .func (PySem.W.fnOf "law" "law" (defArgs s_law) (defBody s_law) (defScope s_law) .none kV_law dc_law pm_law an_law cd_law ct_law), sl_law⟩)
    (c_law : PySem.W.codeIn K cd_law "law" = true)
    (k_law : PySem.W.keepIn K (.ref fa_law) = true)
    (g_GREATEST_CAPACITY : PySem.W.nsIn K mainGlobals "GREATEST_CAPACITY" = some (some (.int 99 tk_GREATEST_CAPACITY)))
    (z_bool : PySem.W.nsIn K mainGlobals "bool" = some none)
    (z_enumerate : PySem.W.nsIn K mainGlobals "enumerate" = some none)
    (z_int : PySem.W.nsIn K mainGlobals "int" = some none)
    (z_isinstance : PySem.W.nsIn K mainGlobals "isinstance" = some none)
    (z_len : PySem.W.nsIn K mainGlobals "len" = some none)
    (z_list : PySem.W.nsIn K mainGlobals "list" = some none)
    (z_min : PySem.W.nsIn K mainGlobals "min" = some none)
    (z_range : PySem.W.nsIn K mainGlobals "range" = some none)
    (z_repr : PySem.W.nsIn K mainGlobals "repr" = some none)
    (z_tuple : PySem.W.nsIn K mainGlobals "tuple" = some none)
    (gc_BadHolder : PySem.W.nsIn K mainGlobals "BadHolder" = some (some (.ref C_BadHolder)))
    (su_BadHolder : PySem.W.subIn K (.ref C_BadHolder) (.type "BaseException") = some true)
    (ty_BadHolder : PySem.W.typeIn K (.ref C_BadHolder) = some (.type "type"))
    (gc_ScoopError : PySem.W.nsIn K mainGlobals "ScoopError" = some (some (.ref C_ScoopError)))
    (su_ScoopError : PySem.W.subIn K (.ref C_ScoopError) (.type "BaseException") = some true)
    (ty_ScoopError : PySem.W.typeIn K (.ref C_ScoopError) = some (.type "type"))
    (ex_BadHolder : PySem.W.excIn K C_BadHolder [.type "ValueError", .type "Exception", .type "BaseException", .type "object"] "ValueError.__new__" = true)
    (kc_BadHolder : PySem.W.keepIn K (.ref C_BadHolder) = true)
    (hd_ScoopError : PySem.W.hasDictIn K C_ScoopError = true)
    (cl_BadHolder : PySem.W.isClsIn K C_BadHolder = true)
    (xc_BadHolder : PySem.W.isClsIn K C_BadHolder = true)
    (ga_BadHolder : PySem.W.findIn K (.ref C_BadHolder) "__getattribute__" = some (some (.builtin "BaseException.__getattribute__")))
    (gt_BadHolder : PySem.W.findIn K (.ref C_BadHolder) "__getattr__" = some none)
    (ca_BadHolder : PySem.W.findIn K (.ref C_BadHolder) "__class__" = some (some (.builtin "object.__class__")))
    (mr_BadHolder : PySem.W.mroIn K C_BadHolder (.type "object") = some true)
    (nd : PySem.W.specialIn K (.builtin "object.__class__") "__get__" = some (some (.builtin "getset_descriptor.__get__")))
    (tkc : PySem.W.takesIn K (.builtin "object.__class__") = some true)
    (sb_BadHolder_ScoopError : PySem.W.subIn K (.ref C_BadHolder) (.ref C_ScoopError) = some true)
    (sb_BadHolder_BadHolder : PySem.W.subIn K (.ref C_BadHolder) (.ref C_BadHolder) = some true)
    (pt_NoneType_BadHolder : PySem.W.subIn K (.type "NoneType") (.ref C_BadHolder) = some false) :
    ∃ fd : FuncData, (∀ (s : Shared) (v : Value), BindsTo s fd ⟨[v], []⟩ [("script", v)]) ∧ ∀ base : Heap, K.In base → base.Ns mainGlobals mg → FnG Pr w K mg base (L2.CX Pr w) 6 fa fd ["script"] (spD K mg 1 f_law) := by
  have e := hfa.symm.trans (PySem.W.mg_of X G a_law)
  cases e
  have T : Txt K mg := {
    z_bool := PySem.W.mg_none_of X G z_bool
    z_enumerate := PySem.W.mg_none_of X G z_enumerate
    z_int := PySem.W.mg_none_of X G z_int
    z_isinstance := PySem.W.mg_none_of X G z_isinstance
    z_len := PySem.W.mg_none_of X G z_len
    z_list := PySem.W.mg_none_of X G z_list
    z_min := PySem.W.mg_none_of X G z_min
    z_range := PySem.W.mg_none_of X G z_range
    z_repr := PySem.W.mg_none_of X G z_repr
    z_tuple := PySem.W.mg_none_of X G z_tuple
    c_GREATEST_CAPACITY := ⟨_, PySem.W.mg_of X G g_GREATEST_CAPACITY⟩
    x_BadHolder := excR_mk (PySem.W.mg_of X G gc_BadHolder) ex_BadHolder kc_BadHolder su_BadHolder ty_BadHolder
    t_ScoopError := ⟨_, PySem.W.mg_of X G gc_ScoopError, tb_cons (mg_at (PySem.W.mg_of X G gc_BadHolder) (PySem.W.exm_ref su_ScoopError hd_ScoopError ty_ScoopError sb_BadHolder_ScoopError)) (tb_nil)⟩
    i_BadHolder := ⟨_, PySem.W.mg_of X G gc_BadHolder, tb_cons (mg_at (PySem.W.mg_of X G gc_BadHolder) ⟨⟨xc_BadHolder, ga_BadHolder, gt_BadHolder, su_BadHolder, ca_BadHolder, nd, tkc, mr_BadHolder⟩, kit_ref cl_BadHolder ty_BadHolder sb_BadHolder_BadHolder (fun _ => rfl)⟩) (tb_nil), mem_cons (kit_plain cl_BadHolder ty_BadHolder pt_NoneType_BadHolder) (fun t ht => absurd ht List.not_mem_nil)⟩ }
  have F_is_integer := fun_mk (st := s_is_integer) l_is_integer c_is_integer k_is_integer
  have b_is_integer := F_is_integer.binds (ps := ["value"]) fun _ _ _ _ _ _ us hl => match us, hl with | [_], _ => rfl
  have F_is_between := fun_mk (st := s_is_between) l_is_between c_is_between k_is_between
  have b_is_between := F_is_between.binds (ps := ["value", "least", "greatest"]) fun _ _ _ _ _ _ us hl => match us, hl with | [_, _, _], _ => rfl
  have F_passage := fun_mk (st := s_passage) l_passage c_passage k_passage
  have b_passage := F_passage.binds (ps := ["capacity", "load", "box_capacity", "count"]) fun _ _ _ _ _ _ us hl => match us, hl with | [_, _, _, _], _ => rfl
  have F_is_holder := fun_mk (st := s_is_holder) l_is_holder c_is_holder k_is_holder
  have b_is_holder := F_is_holder.binds (ps := ["value"]) fun _ _ _ _ _ _ us hl => match us, hl with | [_], _ => rfl
  have F_exchanged := fun_mk (st := s_exchanged) l_exchanged c_exchanged k_exchanged
  have b_exchanged := F_exchanged.binds (ps := ["left", "right"]) fun _ _ _ _ _ _ us hl => match us, hl with | [_, _], _ => rfl
  have F__law_begun := fun_mk (st := s__law_begun) l__law_begun c__law_begun k__law_begun
  have b__law_begun := F__law_begun.binds (ps := ["script"]) fun _ _ _ _ _ _ us hl => match us, hl with | [_], _ => rfl
  have F__law_mixed := fun_mk (st := s__law_mixed) l__law_mixed c__law_mixed k__law_mixed
  have b__law_mixed := F__law_mixed.binds (ps := ["state"]) fun _ _ _ _ _ _ us hl => match us, hl with | [_], _ => rfl
  have F__law_take := fun_mk (st := s__law_take) l__law_take c__law_take k__law_take
  have b__law_take := F__law_take.binds (ps := ["state", "size"]) fun _ _ _ _ _ _ us hl => match us, hl with | [_, _], _ => rfl
  have F__law_pick := fun_mk (st := s__law_pick) l__law_pick c__law_pick k__law_pick
  have b__law_pick := F__law_pick.binds (ps := ["state", "some"]) fun _ _ _ _ _ _ us hl => match us, hl with | [_, _], _ => rfl
  have F__law_passed := fun_mk (st := s__law_passed) l__law_passed c__law_passed k__law_passed
  have b__law_passed := F__law_passed.binds (ps := ["most", "burden", "size", "amount"]) fun _ _ _ _ _ _ us hl => match us, hl with | [_, _, _, _], _ => rfl
  have F__law_holder := fun_mk (st := s__law_holder) l__law_holder c__law_holder k__law_holder
  have b__law_holder := F__law_holder.binds (ps := ["state"]) fun _ _ _ _ _ _ us hl => match us, hl with | [_], _ => rfl
  have F__law_pair := fun_mk (st := s__law_pair) l__law_pair c__law_pair k__law_pair
  have b__law_pair := F__law_pair.binds (ps := ["one", "two"]) fun _ _ _ _ _ _ us hl => match us, hl with | [_, _], _ => rfl
  have F__law_turned := fun_mk (st := s__law_turned) l__law_turned c__law_turned k__law_turned
  have b__law_turned := F__law_turned.binds (ps := ["some", "order"]) fun _ _ _ _ _ _ us hl => match us, hl with | [_, _], _ => rfl
  have F__law_is_refused := fun_mk (st := s__law_is_refused) l__law_is_refused c__law_is_refused k__law_is_refused
  have b__law_is_refused := F__law_is_refused.binds (ps := ["one", "two"]) fun _ _ _ _ _ _ us hl => match us, hl with | [_, _], _ => rfl
  have F_law := fun_mk (st := s_law) l_law c_law k_law
  have b_law := F_law.binds (ps := ["script"]) fun _ _ _ _ _ _ us hl => match us, hl with | [_], _ => rfl
  refine ⟨PySem.W.fnOf "law" "law" (defArgs s_law) (defBody s_law) (defScope s_law) .none kV_law dc_law pm_law an_law cd_law ct_law, fun s v => .of_eq rfl, fun base _ _ => ?_⟩
  have D_is_integer : FnD Pr w K mg base 1 _ _ ["value"] _ := ok_is_integer F_is_integer T 
  have H_is_integer := has_mk (x := "is_integer") D_is_integer (PySem.W.mg_of X G a_is_integer) k_is_integer b_is_integer
  have D_is_between : FnD Pr w K mg base 2 _ _ ["value", "least", "greatest"] _ := ok_is_between F_is_between T H_is_integer
  have H_is_between := has_mk (x := "is_between") D_is_between (PySem.W.mg_of X G a_is_between) k_is_between b_is_between
  have D_passage : FnD Pr w K mg base 1 _ _ ["capacity", "load", "box_capacity", "count"] _ := ok_passage F_passage T 
  have H_passage := has_mk (x := "passage") D_passage (PySem.W.mg_of X G a_passage) k_passage b_passage
  have D_is_holder : FnD Pr w K mg base 3 _ _ ["value"] _ := ok_is_holder F_is_holder T H_is_between
  have H_is_holder := has_mk (x := "is_holder") D_is_holder (PySem.W.mg_of X G a_is_holder) k_is_holder b_is_holder
  have D_exchanged : FnD Pr w K mg base 4 _ _ ["left", "right"] _ := ok_exchanged F_exchanged T H_is_holder H_passage
  have H_exchanged := has_mk (x := "exchanged") D_exchanged (PySem.W.mg_of X G a_exchanged) k_exchanged b_exchanged
  have D__law_begun : FnD Pr w K mg base 1 _ _ ["script"] _ := ok__law_begun F__law_begun T 
  have H__law_begun := has_mk (x := "_law_begun") D__law_begun (PySem.W.mg_of X G a__law_begun) k__law_begun b__law_begun
  have D__law_mixed : FnD Pr w K mg base 1 _ _ ["state"] _ := ok__law_mixed F__law_mixed T 
  have H__law_mixed := has_mk (x := "_law_mixed") D__law_mixed (PySem.W.mg_of X G a__law_mixed) k__law_mixed b__law_mixed
  have D__law_take : FnD Pr w K mg base 2 _ _ ["state", "size"] _ := ok__law_take F__law_take T H__law_mixed
  have H__law_take := has_mk (x := "_law_take") D__law_take (PySem.W.mg_of X G a__law_take) k__law_take b__law_take
  have D__law_pick : FnD Pr w K mg base 3 _ _ ["state", "some"] _ := ok__law_pick F__law_pick T H__law_take
  have H__law_pick := has_mk (x := "_law_pick") D__law_pick (PySem.W.mg_of X G a__law_pick) k__law_pick b__law_pick
  have D__law_passed : FnD Pr w K mg base 1 _ _ ["most", "burden", "size", "amount"] _ := ok__law_passed F__law_passed T 
  have H__law_passed := has_mk (x := "_law_passed") D__law_passed (PySem.W.mg_of X G a__law_passed) k__law_passed b__law_passed
  have D__law_holder : FnD Pr w K mg base 4 _ _ ["state"] _ := ok__law_holder F__law_holder T H__law_pick H__law_take
  have H__law_holder := has_mk (x := "_law_holder") D__law_holder (PySem.W.mg_of X G a__law_holder) k__law_holder b__law_holder
  have D__law_pair : FnD Pr w K mg base 2 _ _ ["one", "two"] _ := ok__law_pair F__law_pair T H__law_passed
  have H__law_pair := has_mk (x := "_law_pair") D__law_pair (PySem.W.mg_of X G a__law_pair) k__law_pair b__law_pair
  have D__law_turned : FnD Pr w K mg base 5 _ _ ["some", "order"] _ := ok__law_turned F__law_turned T H__law_pair H_exchanged
  have H__law_turned := has_mk (x := "_law_turned") D__law_turned (PySem.W.mg_of X G a__law_turned) k__law_turned b__law_turned
  have D__law_is_refused : FnD Pr w K mg base 5 _ _ ["one", "two"] _ := ok__law_is_refused F__law_is_refused T H_exchanged
  have H__law_is_refused := has_mk (x := "_law_is_refused") D__law_is_refused (PySem.W.mg_of X G a__law_is_refused) k__law_is_refused b__law_is_refused
  have K_law_hk_exchanged_0 : HasK Pr w K mg base 4 "exchanged" ["left", "right"] ["right", "left"] [1, 0] 0 f_exchanged [] := hasK_mk D_exchanged (PySem.W.mg_of X G a_exchanged) k_exchanged (fun s us ws h1 h2 => match us, ws, h1, h2 with | [], [_, _], _, _ => .of_eq rfl) rfl
  have D_law : FnD Pr w K mg base 6 _ _ ["script"] _ := ok_law F_law T H__law_begun H__law_holder H__law_is_refused H__law_pair H__law_pick H__law_turned H_exchanged K_law_hk_exchanged_0
  exact D_law
end K09
open PySem PySem.W PyProof.Rows
set_option maxRecDepth 100000 in
set_option maxHeartbeats 0 in
theorem PySem.Challenge.cw_scooprow_k09_holders_exchanged_holds : PySem.Challenge.rw_scooprow_k09_holders_exchanged.Holds := by
  w_on; o_law; k_head; (case hw => w_witness2)
  k_fill
  refine DL.walk_G (l := PySem.Challenge.rw_scooprow_k09_holders_exchanged) (n := 63) (k := 6) (x := "script") (C := fun w => L2.CX PySem.Challenge.rw_scooprow_k09_holders_exchanged.prog w) (sp := fun w mg => DL.spD _ mg 1 K09.f_law) rfl (by decide) rfl ⟨rfl, by decide, by decide⟩ (fun w h Y => PySem.W.kIn_of Y) ?F (fun w mg H a ns hl _ hS => DL.sp_law (K09.law_ok hl) hS) fun _ _ _ _ _ z => DL.cx_no z
  case F =>
    intro w mg fa h KX G hmg
    refine' K09.all_mk KX G hmg ?a_is_integer ?l_is_integer ?c_is_integer ?k_is_integer ?a_is_between ?l_is_between ?c_is_between ?k_is_between ?a_passage ?l_passage ?c_passage ?k_passage ?a_is_holder ?l_is_holder ?c_is_holder ?k_is_holder ?a_exchanged ?l_exchanged ?c_exchanged ?k_exchanged ?a__law_begun ?l__law_begun ?c__law_begun ?k__law_begun ?a__law_mixed ?l__law_mixed ?c__law_mixed ?k__law_mixed ?a__law_take ?l__law_take ?c__law_take ?k__law_take ?a__law_pick ?l__law_pick ?c__law_pick ?k__law_pick ?a__law_passed ?l__law_passed ?c__law_passed ?k__law_passed ?a__law_holder ?l__law_holder ?c__law_holder ?k__law_holder ?a__law_pair ?l__law_pair ?c__law_pair ?k__law_pair ?a__law_turned ?l__law_turned ?c__law_turned ?k__law_turned ?a__law_is_refused ?l__law_is_refused ?c__law_is_refused ?k__law_is_refused ?a_law ?l_law ?c_law ?k_law ?g_GREATEST_CAPACITY ?z_bool ?z_enumerate ?z_int ?z_isinstance ?z_len ?z_list ?z_min ?z_range ?z_repr ?z_tuple ?gc_BadHolder ?su_BadHolder ?ty_BadHolder ?gc_ScoopError ?su_ScoopError ?ty_ScoopError ?ex_BadHolder ?kc_BadHolder ?hd_ScoopError ?cl_BadHolder ?xc_BadHolder ?ga_BadHolder ?gt_BadHolder ?ca_BadHolder ?mr_BadHolder ?nd ?tkc ?sb_BadHolder_ScoopError ?sb_BadHolder_BadHolder ?pt_NoneType_BadHolder
    (case a_is_integer => k_is)
    (case l_is_integer => k_is)
    (case c_is_integer => k_is)
    (case k_is_integer => k_is)
    (case a_is_between => k_is)
    (case l_is_between => k_is)
    (case c_is_between => k_is)
    (case k_is_between => k_is)
    (case a_passage => k_is)
    (case l_passage => k_is)
    (case c_passage => k_is)
    (case k_passage => k_is)
    (case a_is_holder => k_is)
    (case l_is_holder => k_is)
    (case c_is_holder => k_is)
    (case k_is_holder => k_is)
    (case a_exchanged => k_is)
    (case l_exchanged => k_is)
    (case c_exchanged => k_is)
    (case k_exchanged => k_is)
    (case a__law_begun => k_is)
    (case l__law_begun => k_is)
    (case c__law_begun => k_is)
    (case k__law_begun => k_is)
    (case a__law_mixed => k_is)
    (case l__law_mixed => k_is)
    (case c__law_mixed => k_is)
    (case k__law_mixed => k_is)
    (case a__law_take => k_is)
    (case l__law_take => k_is)
    (case c__law_take => k_is)
    (case k__law_take => k_is)
    (case a__law_pick => k_is)
    (case l__law_pick => k_is)
    (case c__law_pick => k_is)
    (case k__law_pick => k_is)
    (case a__law_passed => k_is)
    (case l__law_passed => k_is)
    (case c__law_passed => k_is)
    (case k__law_passed => k_is)
    (case a__law_holder => k_is)
    (case l__law_holder => k_is)
    (case c__law_holder => k_is)
    (case k__law_holder => k_is)
    (case a__law_pair => k_is)
    (case l__law_pair => k_is)
    (case c__law_pair => k_is)
    (case k__law_pair => k_is)
    (case a__law_turned => k_is)
    (case l__law_turned => k_is)
    (case c__law_turned => k_is)
    (case k__law_turned => k_is)
    (case a__law_is_refused => k_is)
    (case l__law_is_refused => k_is)
    (case c__law_is_refused => k_is)
    (case k__law_is_refused => k_is)
    (case a_law => k_is)
    (case l_law => k_is)
    (case c_law => k_is)
    (case k_law => k_is)
    (case g_GREATEST_CAPACITY => k_is)
    (case z_bool => k_is)
    (case z_enumerate => k_is)
    (case z_int => k_is)
    (case z_isinstance => k_is)
    (case z_len => k_is)
    (case z_list => k_is)
    (case z_min => k_is)
    (case z_range => k_is)
    (case z_repr => k_is)
    (case z_tuple => k_is)
    (case gc_BadHolder => k_is)
    (case su_BadHolder => k_is)
    (case ty_BadHolder => k_is)
    (case gc_ScoopError => k_is)
    (case su_ScoopError => k_is)
    (case ty_ScoopError => k_is)
    (case ex_BadHolder => k_exc)
    (case kc_BadHolder => k_is)
    (case hd_ScoopError => k_is)
    (case cl_BadHolder => k_is)
    (case xc_BadHolder => k_is)
    (case ga_BadHolder => k_is)
    (case gt_BadHolder => k_is)
    (case ca_BadHolder => k_is)
    (case mr_BadHolder => k_is)
    (case nd => k_is)
    (case tkc => k_is)
    (case sb_BadHolder_ScoopError => first | rfl | k_is)
    (case sb_BadHolder_BadHolder => first | rfl | k_is)
    (case pt_NoneType_BadHolder => k_is)
