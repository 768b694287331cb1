import PyProof.Rows.All
import Wide.All
import OpenK.AllK
import Wide.FinOn
import HandS.ForMost
import HandS.ForExc
import HandS.Wide
import HandS.TupAny
import HandS.CallSlots
import HandS.IsInst
import HandS.ExcOwn
import HandS.WordsExc
import HandS.SortInts
import HandS.Comp
import HandS.DictComp
import HandS.SetFor
import HandS.ExcIs
import HandS.RaiseMore
import KE.KExcIs
import HandS.Style
import HandS.NoneIn
import KE.KTupSum
import PyProof.ReprBulk
import PyProof.FitsInt
import HandS.Iter
import HandS.SortRule
import HandS.ExcInit
import HandS.ExcValue
import HandS.ExcField
import HandS.Property
import HandS.ListItems
import HandS.More
import HandS.WordsDict
import PyProof.TupleOfSeq
import HandS.Small
import HandS.TupSets
import PyProof.InstNe
import HandS.OwnEq
import PySem.Challenge.RW_scooprow_k18_whole_sweeps_in_any_order
import HandS.Defaults
import HandS.ForSpec
set_option Elab.async false
set_option linter.all false
set_option maxRecDepth 100000
set_option maxHeartbeats 2000000
/-! DLa: values as trees D, what stands for them in a heap (Rp), what a frame's slots stand for (RE). -/
namespace DL
open PySem L2

/-- a value as a tree. o = true: owned (one holder, may be changed); false: frozen -/
inductive D where
  | un
  | sl (i : Nat)
  | non
  | bl (b : Bool)
  | int (i : Int)
  | str (x : Str)
  | lst (o : Bool) (xs : List D)
  | tup (xs : List D)
  | dct (o : Bool) (ks : List Key) (xs : List D)
  | obj (o : Bool) (c : Str) (ns : List Str) (xs : List D)
  | exc (c : Str) (ns : List Str) (xs : List D)
  | scr (ns : List Int)

/-- an exception that was caught (or made): its class, its own dict -/
def excHO (a : Addr) (cls : Value) (dx : Option Addr) : HO := .ext fun h => ∃ oe vs, h.get? a = some oe ∧ Zc cls dx oe ∧ oe.data = .fields vs

mutual
/-- v stands for the tree: F holds what is frozen, S are the addresses that it owns -/
def Rp (K : PySem.W.Frag) (mg : Str → Option Value) (F H : Hp) : D → V → List Addr → Prop
  | .un, _, _ => False
  | .sl _, _, _ => False
  | .non, v, S => v = .non ∧ S = []
  | .bl b, v, S => v = .bl b ∧ S = []
  | .int i, v, S => v = .int i ∧ S = []
  | .str x, v, S => v = .str x ∧ S = []
  | .lst o xs, v, S => ∃ a vs S', v = .ref a ∧ RpL K mg F H xs vs S' ∧ if o = true then H a = some (.lst vs) ∧ S = a :: S' else F a = some (.lst vs) ∧ S' = [] ∧ S = []
  | .tup xs, v, S => ∃ a vs, v = .ref a ∧ RpL K mg F H xs vs S ∧ SqT K F a vs
  | .dct o ks xs, v, S => ∃ a vs S', v = .ref a ∧ ks.length = xs.length ∧ RpL K mg F H xs vs S' ∧ if o = true then H a = some (.dK (ks.zip vs)) ∧ S = a :: S' else (∃ od, F a = some (.frz od (.dK (ks.zip vs)))) ∧ S' = [] ∧ S = []
  | .obj o c ns xs, v, S => ∃ a C dx vs S', v = .ref a ∧ mg c = some (.ref C) ∧ ns.length = xs.length ∧ RpL K mg F H xs vs S' ∧ if o = true then H a = some (.ins C dx (ns.zip vs)) ∧ S = a :: S' else F a = some (.ins C dx (ns.zip vs)) ∧ S' = [] ∧ S = []
  | .exc c ns xs, v, S => S = [] ∧ ∃ a C dx, v = .ref a ∧ mg c = some (.ref C) ∧ F a = some (excHO a (.ref C) dx) ∧ ((ns = [] ∧ xs = [] ∧ dx = none) ∨ ∃ d vs, dx = some d ∧ F d = some (.xd (ns.zip vs)) ∧ ns.length = xs.length ∧ RpL K mg F H xs vs [])
  | .scr ns, v, S => S = [] ∧ ∃ a, v = .ref a ∧ SqL K F a (ns.map V.int)
def RpL (K : PySem.W.Frag) (mg : Str → Option Value) (F H : Hp) : List D → List V → List Addr → Prop
  | [], vs, S => vs = [] ∧ S = []
  | d :: ds, vs, S => ∃ v r S1 S2, vs = v :: r ∧ S = S1 ++ S2 ∧ Rp K mg F H d v S1 ∧ RpL K mg F H ds r S2
end

/-- what an extension is: all that stood stands -/
def Ex (H H' : Hp) : Prop := ∀ a o, H a = some o → H' a = some o
theorem Ex.refl (H : Hp) : Ex H H := fun _ _ h => h
theorem Ex.trans {H H1 H2 : Hp} (a : Ex H H1) (b : Ex H1 H2) : Ex H H2 := fun x o h => b x o (a x o h)
theorem Ex.new {H : Hp} {p : Addr} {o : HO} (h : H p = none) : Ex H (upd H p o) := fun a u e => by
  rw [upd_ne (ne_of_none e h)]
  exact e
theorem Ex.none {H H' : Hp} (e : Ex H H') {p : Addr} (h : H' p = none) : H p = none := by
  cases q : H p with
  | none => rfl
  | some o => rw [e p o q] at h; cases h
theorem Ex.rd {H H' : Hp} {a : Addr} {u : HO} (e : Ex H H') (h : Rd H a u) : Rd H' a u := by
  rcases h with h | ⟨o, h⟩
  · exact Or.inl (e a _ h)
  · exact Or.inr ⟨o, e a _ h⟩
theorem Ex.sqL {K : PySem.W.Frag} {H H' : Hp} {a : Addr} {xs : List V} (e : Ex H H') (h : SqL K H a xs) : SqL K H' a xs := by
  rcases h with h | h
  · exact Or.inl (e.rd h)
  · exact Or.inr h
theorem Ex.sqT {K : PySem.W.Frag} {H H' : Hp} {a : Addr} {xs : List V} (e : Ex H H') (h : SqT K H a xs) : SqT K H' a xs := by
  rcases h with h | h
  · exact Or.inl (e.rd h)
  · exact Or.inr h

section
variable {K : PySem.W.Frag} {mg : Str → Option Value} {F F' H H' : Hp}

theorem RpL.len : ∀ {ds : List D} {vs : List V} {S : List Addr}, RpL K mg F H ds vs S → ds.length = vs.length
  | [], _, _, h => by
    unfold RpL at h
    rw [h.1]; rfl
  | d :: ds, _, _, h => by
    unfold RpL at h
    obtain ⟨v, r, S1, S2, rfl, rfl, _, h2⟩ := h
    rw [List.length_cons, List.length_cons, RpL.len h2]

mutual
/-- the frozen heap grows, what is owned stays -/
theorem Rp.stay : ∀ {d : D} {v : V} {S : List Addr}, Ex F F' → Rp K mg F H d v S → (∀ a ∈ S, H' a = H a) → Rp K mg F' H' d v S
  | .un, _, _, _, h, _ => by unfold Rp at h; exact h.elim
  | .sl _, _, _, _, h, _ => by unfold Rp at h; exact h.elim
  | .exc c ns xs, _, _, e, h, k => by
    unfold Rp at h ⊢
    obtain ⟨h0, a, C, dx, rfl, hc, hf, hd⟩ := h
    refine ⟨h0, a, C, dx, rfl, hc, e _ _ hf, ?_⟩
    rcases hd with hd | ⟨d, vs, rfl, hx, hl, hr⟩
    · exact .inl hd
    · exact .inr ⟨d, vs, rfl, e _ _ hx, hl, RpL.stay e hr fun b hb => absurd hb List.not_mem_nil⟩
  | .scr ns, _, _, e, h, _ => by
    unfold Rp at h ⊢
    obtain ⟨h0, a, rfl, hs⟩ := h
    exact ⟨h0, a, rfl, e.sqL hs⟩
  | .non, _, _, _, h, _ => by unfold Rp at h ⊢; exact h
  | .bl _, _, _, _, h, _ => by unfold Rp at h ⊢; exact h
  | .int _, _, _, _, h, _ => by unfold Rp at h ⊢; exact h
  | .str _, _, _, _, h, _ => by unfold Rp at h ⊢; exact h
  | .lst o xs, v, S, e, h, k => by
    unfold Rp at h ⊢
    obtain ⟨a, vs, S', rfl, hl, ho⟩ := h
    cases o with
    | true =>
      rw [if_pos rfl] at ho
      obtain ⟨ha, rfl⟩ := ho
      exact ⟨a, vs, S', rfl, RpL.stay e hl fun b hb => k b (List.mem_cons_of_mem _ hb), by rw [if_pos rfl]; exact ⟨(k a List.mem_cons_self).trans ha, rfl⟩⟩
    | false =>
      rw [if_neg Bool.false_ne_true] at ho
      obtain ⟨ha, rfl, rfl⟩ := ho
      exact ⟨a, vs, [], rfl, RpL.stay e hl fun b hb => absurd hb List.not_mem_nil, by rw [if_neg Bool.false_ne_true]; exact ⟨e _ _ ha, rfl, rfl⟩⟩
  | .tup xs, v, S, e, h, k => by
    unfold Rp at h ⊢
    obtain ⟨a, vs, rfl, hl, ho⟩ := h
    exact ⟨a, vs, rfl, RpL.stay e hl k, e.sqT ho⟩
  | .dct o ks xs, v, S, e, h, k => by
    unfold Rp at h ⊢
    obtain ⟨a, vs, S', rfl, hk, hl, ho⟩ := h
    cases o with
    | true =>
      rw [if_pos rfl] at ho
      obtain ⟨ha, rfl⟩ := ho
      exact ⟨a, vs, S', rfl, hk, RpL.stay e hl fun b hb => k b (List.mem_cons_of_mem _ hb), by rw [if_pos rfl]; exact ⟨(k a List.mem_cons_self).trans ha, rfl⟩⟩
    | false =>
      rw [if_neg Bool.false_ne_true] at ho
      obtain ⟨ha, rfl, rfl⟩ := ho
      obtain ⟨od, ha⟩ := ha
      exact ⟨a, vs, [], rfl, hk, RpL.stay e hl fun b hb => absurd hb List.not_mem_nil, by rw [if_neg Bool.false_ne_true]; exact ⟨⟨od, e _ _ ha⟩, rfl, rfl⟩⟩
  | .obj o c ns xs, v, S, e, h, k => by
    unfold Rp at h ⊢
    obtain ⟨a, C, dx, vs, S', rfl, hc, hk, hl, ho⟩ := h
    cases o with
    | true =>
      rw [if_pos rfl] at ho
      obtain ⟨ha, rfl⟩ := ho
      exact ⟨a, C, dx, vs, S', rfl, hc, hk, RpL.stay e hl fun b hb => k b (List.mem_cons_of_mem _ hb), by rw [if_pos rfl]; exact ⟨(k a List.mem_cons_self).trans ha, rfl⟩⟩
    | false =>
      rw [if_neg Bool.false_ne_true] at ho
      obtain ⟨ha, rfl, rfl⟩ := ho
      exact ⟨a, C, dx, vs, [], rfl, hc, hk, RpL.stay e hl fun b hb => absurd hb List.not_mem_nil, by rw [if_neg Bool.false_ne_true]; exact ⟨e _ _ ha, rfl, rfl⟩⟩
theorem RpL.stay : ∀ {ds : List D} {vs : List V} {S : List Addr}, Ex F F' → RpL K mg F H ds vs S → (∀ a ∈ S, H' a = H a) → RpL K mg F' H' ds vs S
  | [], _, _, _, h, _ => by unfold RpL at h ⊢; exact h
  | d :: ds, _, _, e, h, k => by
    unfold RpL at h ⊢
    obtain ⟨v, r, S1, S2, rfl, rfl, h1, h2⟩ := h
    exact ⟨v, r, S1, S2, rfl, rfl, Rp.stay e h1 fun a ha => k a (List.mem_append_left _ ha), RpL.stay e h2 fun a ha => k a (List.mem_append_right _ ha)⟩
end

mutual
/-- what is owned stands -/
theorem Rp.there : ∀ {d : D} {v : V} {S : List Addr}, Rp K mg F H d v S → ∀ a ∈ S, H a ≠ none
  | .un, _, _, h => by unfold Rp at h; exact h.elim
  | .sl _, _, _, h => by unfold Rp at h; exact h.elim
  | .exc _ _ _, _, _, h => by unfold Rp at h; rw [h.1]; exact fun a ha => absurd ha List.not_mem_nil
  | .non, _, _, h => by unfold Rp at h; rw [h.2]; exact fun a ha => absurd ha List.not_mem_nil
  | .scr _, _, _, h => by unfold Rp at h; rw [h.1]; exact fun a ha => absurd ha List.not_mem_nil
  | .bl _, _, _, h => by unfold Rp at h; rw [h.2]; exact fun a ha => absurd ha List.not_mem_nil
  | .int _, _, _, h => by unfold Rp at h; rw [h.2]; exact fun a ha => absurd ha List.not_mem_nil
  | .str _, _, _, h => by unfold Rp at h; rw [h.2]; exact fun a ha => absurd ha List.not_mem_nil
  | .lst o xs, v, S, h => by
    unfold Rp at h
    obtain ⟨a, vs, S', rfl, hl, ho⟩ := h
    cases o with
    | true =>
      rw [if_pos rfl] at ho
      obtain ⟨ha, rfl⟩ := ho
      intro b hb
      rcases List.mem_cons.mp hb with rfl | hb
      · rw [ha]; exact fun q => nomatch q
      · exact RpL.there hl b hb
    | false =>
      rw [if_neg Bool.false_ne_true] at ho
      rw [ho.2.2]; exact fun a ha => absurd ha List.not_mem_nil
  | .tup xs, v, S, h => by
    unfold Rp at h
    obtain ⟨a, vs, rfl, hl, ho⟩ := h
    exact RpL.there hl
  | .dct o ks xs, v, S, h => by
    unfold Rp at h
    obtain ⟨a, vs, S', rfl, hk, hl, ho⟩ := h
    cases o with
    | true =>
      rw [if_pos rfl] at ho
      obtain ⟨ha, rfl⟩ := ho
      intro b hb
      rcases List.mem_cons.mp hb with rfl | hb
      · rw [ha]; exact fun q => nomatch q
      · exact RpL.there hl b hb
    | false =>
      rw [if_neg Bool.false_ne_true] at ho
      rw [ho.2.2]; exact fun a ha => absurd ha List.not_mem_nil
  | .obj o c ns xs, v, S, h => by
    unfold Rp at h
    obtain ⟨a, C, dx, vs, S', rfl, hc, hk, hl, ho⟩ := h
    cases o with
    | true =>
      rw [if_pos rfl] at ho
      obtain ⟨ha, rfl⟩ := ho
      intro b hb
      rcases List.mem_cons.mp hb with rfl | hb
      · rw [ha]; exact fun q => nomatch q
      · exact RpL.there hl b hb
    | false =>
      rw [if_neg Bool.false_ne_true] at ho
      rw [ho.2.2]; exact fun a ha => absurd ha List.not_mem_nil
theorem RpL.there : ∀ {ds : List D} {vs : List V} {S : List Addr}, RpL K mg F H ds vs S → ∀ a ∈ S, H a ≠ none
  | [], _, _, h => by unfold RpL at h; rw [h.2]; exact fun a ha => absurd ha List.not_mem_nil
  | d :: ds, _, _, h => by
    unfold RpL at h
    obtain ⟨v, r, S1, S2, rfl, rfl, h1, h2⟩ := h
    intro a ha
    rcases List.mem_append.mp ha with ha | ha
    · exact Rp.there h1 a ha
    · exact RpL.there h2 a ha
end

mutual
/-- nothing owned within -/
def froz : D → Bool
  | .un => false
  | .sl _ => false
  | .non => true
  | .bl _ => true
  | .int _ => true
  | .str _ => true
  | .lst o xs => !o && frozL xs
  | .tup xs => frozL xs
  | .dct o _ xs => !o && frozL xs
  | .obj o _ _ xs => !o && frozL xs
  | .exc _ _ _ => true
  | .scr _ => true
def frozL : List D → Bool
  | [] => true
  | d :: ds => froz d && frozL ds
end

mutual
theorem Rp.froz : ∀ {d : D} {v : V} {S : List Addr}, Rp K mg F H d v S → DL.froz d = true → S = []
  | .un, _, _, h, _ => by unfold Rp at h; exact h.elim
  | .sl _, _, _, h, _ => by unfold Rp at h; exact h.elim
  | .exc _ _ _, _, _, h, _ => by unfold Rp at h; exact h.1
  | .non, _, _, h, _ => by unfold Rp at h; exact h.2
  | .scr _, _, _, h, _ => by unfold Rp at h; exact h.1
  | .bl _, _, _, h, _ => by unfold Rp at h; exact h.2
  | .int _, _, _, h, _ => by unfold Rp at h; exact h.2
  | .str _, _, _, h, _ => by unfold Rp at h; exact h.2
  | .lst o xs, v, S, h, z => by
    unfold Rp at h
    unfold DL.froz at z
    obtain ⟨a, vs, S', rfl, hl, ho⟩ := h
    cases o with
    | true => cases z
    | false =>
      rw [if_neg Bool.false_ne_true] at ho
      exact ho.2.2
  | .tup xs, v, S, h, z => by
    unfold Rp at h
    unfold DL.froz at z
    obtain ⟨a, vs, rfl, hl, ho⟩ := h
    exact RpL.froz hl z
  | .dct o ks xs, v, S, h, z => by
    unfold Rp at h
    unfold DL.froz at z
    obtain ⟨a, vs, S', rfl, hk, hl, ho⟩ := h
    cases o with
    | true => cases z
    | false =>
      rw [if_neg Bool.false_ne_true] at ho
      exact ho.2.2
  | .obj o c ns xs, v, S, h, z => by
    unfold Rp at h
    unfold DL.froz at z
    obtain ⟨a, C, dx, vs, S', rfl, hc, hk, hl, ho⟩ := h
    cases o with
    | true => cases z
    | false =>
      rw [if_neg Bool.false_ne_true] at ho
      exact ho.2.2
theorem RpL.froz : ∀ {ds : List D} {vs : List V} {S : List Addr}, RpL K mg F H ds vs S → frozL ds = true → S = []
  | [], _, _, h, _ => by unfold RpL at h; exact h.2
  | d :: ds, _, _, h, z => by
    unfold RpL at h
    unfold frozL at z
    obtain ⟨v, r, S1, S2, rfl, rfl, h1, h2⟩ := h
    rw [Bool.and_eq_true] at z
    rw [Rp.froz h1 z.1, RpL.froz h2 z.2]
    rfl
end

mutual
/-- freeze -/
def fz : D → D
  | .lst _ xs => .lst false (fzL xs)
  | .tup xs => .tup (fzL xs)
  | .dct _ ks xs => .dct false ks (fzL xs)
  | .obj _ c ns xs => .obj false c ns (fzL xs)
  | d => d
def fzL : List D → List D
  | [] => []
  | d :: ds => fz d :: fzL ds
end
theorem fzL_map : ∀ ds : List D, fzL ds = ds.map fz
  | [] => rfl
  | d :: ds => by rw [fzL, List.map_cons, fzL_map ds]
theorem fzL_len (ds : List D) : (fzL ds).length = ds.length := by rw [fzL_map, List.length_map]
end
end DL
set_option Elab.async false
set_option linter.all false
set_option maxRecDepth 100000
set_option maxHeartbeats 2000000
/-! DLb: freezing; the state of a body (RE) and its steps. -/
namespace DL
open PySem L2

section
variable {K : PySem.W.Frag} {mg : Str → Option Value} {F F' H H' : Hp}

/-- what is owned at S is frozen as it stands -/
def adopt (F H : Hp) (S : List Addr) : Hp := fun a => if a ∈ S then H a else F a
theorem adopt_in {S : List Addr} {a : Addr} (h : a ∈ S) : adopt F H S a = H a := if_pos h
theorem adopt_out {S : List Addr} {a : Addr} (h : a ∉ S) : adopt F H S a = F a := if_neg h
theorem adopt_nil : adopt F H [] = F := by
  funext a
  exact adopt_out List.not_mem_nil
theorem adopt_ex {S : List Addr} (e : Ex F H) : Ex (adopt F H S) H := fun a o h => by
  by_cases ha : a ∈ S
  · rw [adopt_in ha] at h; exact h
  · rw [adopt_out ha] at h; exact e a o h

/-- the dicts at S are locked -/
def lk (ods : Addr → Obj) (S : List Addr) (H : Hp) : Hp := fun a => if a ∈ S then (match H a with
  | some (.dK kvs) => some (.frz (ods a) (.dK kvs))
  | o => o) else H a
theorem lk_out {ods : Addr → Obj} {S : List Addr} {a : Addr} (h : a ∉ S) : lk ods S H a = H a := if_neg h
theorem lk_ne {ods : Addr → Obj} {S : List Addr} {a : Addr} {o : HO} (h : H a = some o) (n : ∀ kvs, o ≠ .dK kvs) : lk ods S H a = some o := by
  unfold lk
  split
  · rw [h]
    split
    · rename_i q; cases q; exact absurd rfl (n _)
    · rfl
  · exact h
theorem lk_dK {ods : Addr → Obj} {S : List Addr} {a : Addr} {kvs : List (Key × V)} (ha : a ∈ S) (h : H a = some (.dK kvs)) : lk ods S H a = some (.frz (ods a) (.dK kvs)) := by
  unfold lk
  rw [if_pos ha, h]
theorem lk_nil {ods : Addr → Obj} : lk ods [] H = H := by
  funext a
  exact lk_out List.not_mem_nil
theorem lk_none {ods : Addr → Obj} {S : List Addr} {a : Addr} (h : lk ods S H a = none) : H a = none := by
  unfold lk at h
  split at h
  · split at h
    · cases h
    · exact h
  · exact h
theorem lk_ex {ods : Addr → Obj} {S : List Addr} (e : Ex F H) (n : ∀ a ∈ S, F a = none) : Ex F (lk ods S H) := fun a o h => by
  have ha : a ∉ S := fun z => by rw [n a z] at h; cases h
  rw [lk_out ha]
  exact e a o h
theorem ex_adopt {L : Hp} {S : List Addr} (n : ∀ a ∈ S, F a = none) : Ex F (adopt F L S) := fun a o h => by
  have ha : a ∉ S := fun z => by rw [n a z] at h; cases h
  rw [adopt_out ha]; exact h

mutual
theorem Rp.fz {ods : Addr → Obj} {S0 : List Addr} (n : ∀ a ∈ S0, F a = none) : ∀ {d : D} {v : V} {S : List Addr}, Rp K mg F H d v S → (∀ a ∈ S, a ∈ S0) → Rp K mg (adopt F (lk ods S0 H) S0) (lk ods S0 H) (DL.fz d) v []
  | .un, _, _, h, _ => by unfold Rp at h; exact h.elim
  | .sl _, _, _, h, _ => by unfold Rp at h; exact h.elim
  | .exc c ns xs, v, S, h, _ => by
    have e0 : S = [] := by unfold Rp at h; exact h.1
    subst e0
    unfold DL.fz
    exact Rp.stay (ex_adopt n) h fun _ z => absurd z List.not_mem_nil
  | .non, _, _, h, _ => by unfold DL.fz; unfold Rp at h ⊢; exact ⟨h.1, rfl⟩
  | .scr ns, _, _, h, _ => by
    unfold DL.fz
    unfold Rp at h ⊢
    obtain ⟨h0, a, rfl, hs⟩ := h
    exact ⟨rfl, a, rfl, (ex_adopt n).sqL hs⟩
  | .bl _, _, _, h, _ => by unfold DL.fz; unfold Rp at h ⊢; exact ⟨h.1, rfl⟩
  | .int _, _, _, h, _ => by unfold DL.fz; unfold Rp at h ⊢; exact ⟨h.1, rfl⟩
  | .str _, _, _, h, _ => by unfold DL.fz; unfold Rp at h ⊢; exact ⟨h.1, rfl⟩
  | .lst o xs, v, S, h, hs => by
    unfold DL.fz
    unfold Rp at h ⊢
    obtain ⟨a, vs, S', rfl, hl, ho⟩ := h
    cases o with
    | true =>
      rw [if_pos rfl] at ho
      obtain ⟨ha, rfl⟩ := ho
      refine ⟨a, vs, [], rfl, RpL.fz n hl fun b hb => hs b (List.mem_cons_of_mem _ hb), ?_⟩
      rw [if_neg Bool.false_ne_true]
      exact ⟨(adopt_in (hs a List.mem_cons_self)).trans (lk_ne ha fun _ z => by cases z), rfl, rfl⟩
    | false =>
      rw [if_neg Bool.false_ne_true] at ho
      obtain ⟨ha, rfl, rfl⟩ := ho
      refine ⟨a, vs, [], rfl, RpL.fz n hl fun b hb => absurd hb List.not_mem_nil, ?_⟩
      rw [if_neg Bool.false_ne_true]
      exact ⟨ex_adopt n _ _ ha, rfl, rfl⟩
  | .tup xs, v, S, h, hs => by
    unfold DL.fz
    unfold Rp at h ⊢
    obtain ⟨a, vs, rfl, hl, ho⟩ := h
    exact ⟨a, vs, rfl, RpL.fz n hl hs, (ex_adopt n).sqT ho⟩
  | .dct o ks xs, v, S, h, hs => by
    unfold DL.fz
    unfold Rp at h ⊢
    obtain ⟨a, vs, S', rfl, hk, hl, ho⟩ := h
    cases o with
    | true =>
      rw [if_pos rfl] at ho
      obtain ⟨ha, rfl⟩ := ho
      refine ⟨a, vs, [], rfl, hk.trans (fzL_len xs).symm, RpL.fz n hl fun b hb => hs b (List.mem_cons_of_mem _ hb), ?_⟩
      rw [if_neg Bool.false_ne_true]
      exact ⟨⟨ods a, (adopt_in (hs a List.mem_cons_self)).trans (lk_dK (hs a List.mem_cons_self) ha)⟩, rfl, rfl⟩
    | false =>
      rw [if_neg Bool.false_ne_true] at ho
      obtain ⟨⟨od, ha⟩, rfl, rfl⟩ := ho
      refine ⟨a, vs, [], rfl, hk.trans (fzL_len xs).symm, RpL.fz n hl fun b hb => absurd hb List.not_mem_nil, ?_⟩
      rw [if_neg Bool.false_ne_true]
      exact ⟨⟨od, ex_adopt n _ _ ha⟩, rfl, rfl⟩
  | .obj o c ns xs, v, S, h, hs => by
    unfold DL.fz
    unfold Rp at h ⊢
    obtain ⟨a, C, dx, vs, S', rfl, hc, hk, hl, ho⟩ := h
    cases o with
    | true =>
      rw [if_pos rfl] at ho
      obtain ⟨ha, rfl⟩ := ho
      refine ⟨a, C, dx, vs, [], rfl, hc, hk.trans (fzL_len xs).symm, RpL.fz n hl fun b hb => hs b (List.mem_cons_of_mem _ hb), ?_⟩
      rw [if_neg Bool.false_ne_true]
      exact ⟨(adopt_in (hs a List.mem_cons_self)).trans (lk_ne ha fun _ z => by cases z), rfl, rfl⟩
    | false =>
      rw [if_neg Bool.false_ne_true] at ho
      obtain ⟨ha, rfl, rfl⟩ := ho
      refine ⟨a, C, dx, vs, [], rfl, hc, hk.trans (fzL_len xs).symm, RpL.fz n hl fun b hb => absurd hb List.not_mem_nil, ?_⟩
      rw [if_neg Bool.false_ne_true]
      exact ⟨ex_adopt n _ _ ha, rfl, rfl⟩
theorem RpL.fz {ods : Addr → Obj} {S0 : List Addr} (n : ∀ a ∈ S0, F a = none) : ∀ {ds : List D} {vs : List V} {S : List Addr}, RpL K mg F H ds vs S → (∀ a ∈ S, a ∈ S0) → RpL K mg (adopt F (lk ods S0 H) S0) (lk ods S0 H) (fzL ds) vs []
  | [], _, _, h, _ => by unfold fzL; unfold RpL at h ⊢; exact ⟨h.1, rfl⟩
  | d :: ds, _, _, h, hs => by
    unfold fzL
    unfold RpL at h ⊢
    obtain ⟨v, r, S1, S2, rfl, rfl, h1, h2⟩ := h
    exact ⟨v, r, [], [], rfl, rfl, Rp.fz n h1 fun a ha => hs a (List.mem_append_left _ ha), RpL.fz n h2 fun a ha => hs a (List.mem_append_right _ ha)⟩
end

mutual
theorem froz_fz : ∀ d : D, froz d = true → fz d = d
  | .un, h => rfl
  | .sl _, h => rfl
  | .non, h => rfl
  | .bl _, h => rfl
  | .int _, h => rfl
  | .str _, h => rfl
  | .exc _ _ _, h => rfl
  | .scr _, h => rfl
  | .lst o xs, h => by
    unfold froz at h
    rw [Bool.and_eq_true] at h
    unfold fz
    rw [frozL_fz xs h.2]
    cases o with
    | true => exact absurd h.1 (by decide)
    | false => rfl
  | .tup xs, h => by
    unfold froz at h
    unfold fz
    rw [frozL_fz xs h]
  | .dct o ks xs, h => by
    unfold froz at h
    rw [Bool.and_eq_true] at h
    unfold fz
    rw [frozL_fz xs h.2]
    cases o with
    | true => exact absurd h.1 (by decide)
    | false => rfl
  | .obj o c ns xs, h => by
    unfold froz at h
    rw [Bool.and_eq_true] at h
    unfold fz
    rw [frozL_fz xs h.2]
    cases o with
    | true => exact absurd h.1 (by decide)
    | false => rfl
theorem frozL_fz : ∀ ds : List D, frozL ds = true → fzL ds = ds
  | [], _ => rfl
  | d :: ds, h => by
    unfold frozL at h
    rw [Bool.and_eq_true] at h
    unfold fzL
    rw [froz_fz d h.1, frozL_fz ds h.2]
end
end

/-! ### the state of a body -/
/-- who owns: a slot, a temporary -/
inductive Own where
  | s (i : Nat)
  | t (k : Nat)
  deriving DecidableEq

/-- what a body leaves as it is: the heap outside, the slots of parameters that it never stores -/
structure Bd where
  out : Addr → Prop
  H0 : Hp
  F0 : Hp
  pins : List (Nat × V)

/-- a temporary: an alias of a slot, or a tree of its own -/
def Tm (K : PySem.W.Frag) (mg : Str → Option Value) (F H : Hp) (σ : St) : D → V → List Addr → Prop
  | .sl i, v, S => σ[i]? = some (some v) ∧ S = []
  | d, v, S => Rp K mg F H d v S

structure REw (K : PySem.W.Frag) (mg : Str → Option Value) (B : Bd) (σ : St) (H F : Hp) (env ts : List D) (vs : List V) (ow : Own → List Addr) : Prop where
  len : env.length = σ.length
  tlen : ts.length = vs.length
  slot : ∀ (i : Nat) d, env[i]? = some d → d ≠ .un → ∃ v, σ[i]? = some (some v) ∧ Rp K mg F H d v (ow (.s i))
  sun : ∀ i : Nat, (env[i]? = none ∨ env[i]? = some .un) → ow (.s i) = []
  temp : ∀ (k : Nat) d v, ts[k]? = some d → vs[k]? = some v → Tm K mg F H σ d v (ow (.t k))
  tun : ∀ k : Nat, ts.length ≤ k → ow (.t k) = []
  uniq : ∀ o o' a, a ∈ ow o → a ∈ ow o' → o = o'
  nod : ∀ o, (ow o).Nodup
  fno : ∀ o a, a ∈ ow o → F a = none
  ex : Ex F H
  fr : ∀ a, B.out a → H a = B.H0 a ∧ F a = B.F0 a ∧ B.H0 a ≠ none ∧ ∀ o, a ∉ ow o
  pin : ∀ p ∈ B.pins, σ[p.1]? = some (some p.2)
def RE (K : PySem.W.Frag) (mg : Str → Option Value) (B : Bd) (σ : St) (H F : Hp) (env ts : List D) (vs : List V) : Prop := ∃ ow, REw K mg B σ H F env ts vs ow

def isUn : D → Bool
  | .un => true
  | _ => false
/-- what an operand stands for now -/
def rs (env : List D) : D → D
  | .sl i => env.getD i .un
  | d => d

section
variable {K : PySem.W.Frag} {mg : Str → Option Value} {B : Bd} {σ : St} {F F' H H' : Hp} {env ts us : List D} {vs ws : List V} {d : D} {v : V} {ow : Own → List Addr}

theorem Tm.of (h : Rp K mg F H d v S) : Tm K mg F H σ d v S := by
  cases d <;> first | exact h | (unfold Rp at h; exact h.elim)
theorem Tm.rp (h : Tm K mg F H σ d v S) (n : ∀ i, d ≠ .sl i) : Rp K mg F H d v S := by
  cases d with
  | sl i => exact absurd rfl (n i)
  | _ => exact h
theorem Tm.stay (e : Ex F F') (h : Tm K mg F H σ d v S) (k : ∀ a ∈ S, H' a = H a) : Tm K mg F' H' σ d v S := by
  cases d with
  | sl i => exact h
  | _ => exact Tm.of (Rp.stay e (Tm.rp h fun i => by intro z; cases z) k)
theorem Tm.there (h : Tm K mg F H σ d v S) : ∀ a ∈ S, H a ≠ none := by
  cases d with
  | sl i =>
    intro a ha
    rw [h.2] at ha
    exact absurd ha List.not_mem_nil
  | _ => exact Rp.there (Tm.rp h fun i => by intro z; cases z)

theorem REw.there (R : REw K mg B σ H F env ts vs ow) : ∀ o a, a ∈ ow o → H a ≠ none := by
  intro o a ha
  cases o with
  | s i =>
    cases e : env[i]? with
    | none => rw [R.sun i (.inl e)] at ha; exact absurd ha List.not_mem_nil
    | some d =>
      by_cases hd : d = .un
      · rw [R.sun i (.inr (by rw [e, hd]))] at ha; exact absurd ha List.not_mem_nil
      · obtain ⟨v, _, r⟩ := R.slot i d e hd
        exact r.there a ha
  | t k =>
    by_cases hk : k < ts.length
    · have hk' : k < vs.length := by rw [← R.tlen]; exact hk
      exact (R.temp k ts[k] vs[k] (by simp [hk]) (by simp [hk'])).there a ha
    · rw [R.tun k (Nat.le_of_not_lt hk)] at ha; exact absurd ha List.not_mem_nil

/-- the heaps grow: the frozen one by what is new or was its own -/
theorem REw.grow (R : REw K mg B σ H F env ts vs ow) (e : Ex F F') (eh : ∀ o a, a ∈ ow o → H' a = H a) (fn : ∀ o a, a ∈ ow o → F' a = none) (ex' : Ex F' H') (fr : ∀ a, B.out a → H' a = H a ∧ F' a = F a) : REw K mg B σ H' F' env ts vs ow where
  len := R.len
  tlen := R.tlen
  slot := fun i d e1 e2 => by
    obtain ⟨v, h1, h2⟩ := R.slot i d e1 e2
    exact ⟨v, h1, h2.stay e fun a ha => eh _ a ha⟩
  sun := R.sun
  temp := fun k d v e1 e2 => (R.temp k d v e1 e2).stay e fun a ha => eh _ a ha
  tun := R.tun
  uniq := R.uniq
  nod := R.nod
  fno := fn
  ex := ex'
  fr := fun a ha => by
    obtain ⟨h1, h2, h3, h4⟩ := R.fr a ha
    obtain ⟨g1, g2⟩ := fr a ha
    exact ⟨g1.trans h1, g2.trans h2, h3, h4⟩
  pin := R.pin

/-- a new address -/
theorem REw.nout (R : REw K mg B σ H F env ts vs ow) {p : Addr} (h : H p = none) : ¬ B.out p ∧ F p = none ∧ ∀ o, p ∉ ow o := by
  refine ⟨fun z => ?_, R.ex.none h, fun o z => R.there o p z h⟩
  obtain ⟨h1, _, h3, _⟩ := R.fr p z
  rw [h] at h1
  exact h3 h1.symm
/-- a new frozen object -/
theorem REw.newF (R : REw K mg B σ H F env ts vs ow) {p : Addr} {o : HO} (h : H p = none) : REw K mg B σ (upd H p o) (upd F p o) env ts vs ow := by
  obtain ⟨n1, n2, n3⟩ := R.nout h
  refine R.grow (Ex.new n2) (fun o' a ha => upd_ne fun z => n3 o' (by rw [← z]; exact ha)) (fun o' a ha => ?_) (fun a u hu => ?_) fun a ha => ?_
  · rw [upd_ne fun z => n3 o' (by rw [← z]; exact ha)]
    exact R.fno o' a ha
  · by_cases z : a = p
    · subst z; rw [upd_same] at hu ⊢; exact hu
    · rw [upd_ne z] at hu ⊢; exact R.ex a u hu
  · have z : a ≠ p := fun z => n1 (by rw [← z]; exact ha)
    exact ⟨upd_ne z, upd_ne z⟩
/-- a new object that is not frozen -/
theorem REw.newH (R : REw K mg B σ H F env ts vs ow) {p : Addr} {o : HO} (h : H p = none) : REw K mg B σ (upd H p o) F env ts vs ow := by
  obtain ⟨n1, n2, n3⟩ := R.nout h
  refine R.grow (Ex.refl F) (fun o' a ha => upd_ne fun z => n3 o' (by rw [← z]; exact ha)) R.fno (fun a u hu => ?_) fun a ha => ?_
  · rw [upd_ne (ne_of_none hu n2)]; exact R.ex a u hu
  · have z : a ≠ p := fun z => n1 (by rw [← z]; exact ha)
    exact ⟨upd_ne z, rfl⟩

/-- the owners of the temporaries below n -/
def low (ow : Own → List Addr) (n : Nat) : Own → List Addr
  | .s i => ow (.s i)
  | .t k => if k < n then ow (.t k) else []
/-- a temporary at n is given S -/
def give (ow : Own → List Addr) (n : Nat) (S : List Addr) : Own → List Addr
  | .s i => ow (.s i)
  | .t k => if k = n then S else ow (.t k)
theorem mem_low {n : Nat} {o : Own} {a : Addr} (h : a ∈ low ow n o) : a ∈ ow o := by
  cases o with
  | s i => exact h
  | t k =>
    unfold low at h
    dsimp only at h
    split at h
    · exact h
    · exact absurd h List.not_mem_nil

/-- temporaries are dropped -/
theorem REw.drop (R : REw K mg B σ H F env (ts ++ us) (vs ++ ws) ow) (hl : us.length = ws.length) : REw K mg B σ H F env ts vs (low ow ts.length) where
  len := R.len
  tlen := by have := R.tlen; simp only [List.length_append] at this; omega
  slot := R.slot
  sun := R.sun
  temp := fun k d v e1 e2 => by
    have hk : k < ts.length := (List.getElem?_eq_some_iff.mp e1).1
    have q : low ow ts.length (.t k) = ow (.t k) := if_pos hk
    rw [q]
    have hk' : k < vs.length := (List.getElem?_eq_some_iff.mp e2).1
    exact R.temp k d v (by rw [List.getElem?_append_left hk]; exact e1) (by rw [List.getElem?_append_left hk']; exact e2)
  tun := fun k hk => if_neg (Nat.not_lt.mpr hk)
  uniq := fun o o' a h1 h2 => R.uniq o o' a (mem_low h1) (mem_low h2)
  nod := fun o => by
    cases o with
    | s i => exact R.nod _
    | t k =>
      unfold low
      dsimp only
      split
      · exact R.nod _
      · exact List.nodup_nil
  fno := fun o a h => R.fno o a (mem_low h)
  ex := R.ex
  fr := fun a ha => by
    obtain ⟨h1, h2, h3, h4⟩ := R.fr a ha
    exact ⟨h1, h2, h3, fun o z => h4 o (mem_low z)⟩
  pin := R.pin
theorem RE.drop (R : RE K mg B σ H F env (ts ++ us) (vs ++ ws)) (hl : us.length = ws.length) : RE K mg B σ H F env ts vs :=
  let ⟨_, r⟩ := R; ⟨_, r.drop hl⟩

/-- a temporary is pushed: S is owned by nobody else -/
theorem REw.push (R : REw K mg B σ H F env ts vs ow) {S : List Addr} (h : Tm K mg F H σ d v S) (hn : ∀ a ∈ S, (∀ o, a ∉ ow o) ∧ F a = none ∧ ¬ B.out a) (hd : S.Nodup) : REw K mg B σ H F env (ts ++ [d]) (vs ++ [v]) (give ow ts.length S) := by
  have gs : ∀ o a, a ∈ give ow ts.length S o → (o = .t ts.length ∧ a ∈ S) ∨ (o ≠ .t ts.length ∧ a ∈ ow o) := fun o a ha => by
    cases o with
    | s i => exact .inr ⟨fun z => (nomatch z), ha⟩
    | t k =>
      unfold give at ha
      dsimp only at ha
      split at ha
      · rename_i e; subst e; exact .inl ⟨rfl, ha⟩
      · rename_i e; exact .inr ⟨fun z => by (cases z; exact e rfl), ha⟩
  refine ⟨R.len, by simp [R.tlen], R.slot, R.sun, fun k d' v' e1 e2 => ?_, fun k hk => ?_, fun o o' a h1 h2 => ?_, fun o => ?_, fun o a ha => ?_, R.ex, fun a ha => ?_, R.pin⟩
  · by_cases hk : k = ts.length
    · subst hk
      rw [List.getElem?_append_right (Nat.le_refl _), Nat.sub_self] at e1
      rw [R.tlen, List.getElem?_append_right (Nat.le_refl _), Nat.sub_self] at e2
      cases e1
      cases e2
      show Tm K mg F H σ d v (if ts.length = ts.length then S else ow (.t ts.length))
      rw [if_pos rfl]
      exact h
    · have hlt : k < ts.length := by
        have := (List.getElem?_eq_some_iff.mp e1).1
        simp only [List.length_append, List.length_cons, List.length_nil] at this
        omega
      rw [List.getElem?_append_left hlt] at e1
      rw [List.getElem?_append_left (by rw [← R.tlen]; exact hlt)] at e2
      show Tm K mg F H σ d' v' (if k = ts.length then S else ow (.t k))
      rw [if_neg hk]
      exact R.temp k d' v' e1 e2
  · simp only [List.length_append, List.length_cons, List.length_nil] at hk
    show (if k = ts.length then S else ow (.t k)) = []
    rw [if_neg (by omega)]
    exact R.tun k (by omega)
  · rcases gs o a h1 with ⟨rfl, q1⟩ | ⟨n1, q1⟩ <;> rcases gs o' a h2 with ⟨rfl, q2⟩ | ⟨n2, q2⟩
    · rfl
    · exact absurd q2 ((hn a q1).1 o')
    · exact absurd q1 ((hn a q2).1 o)
    · exact R.uniq o o' a q1 q2
  · cases o with
    | s i => exact R.nod _
    | t k =>
      unfold give
      dsimp only
      split
      · exact hd
      · exact R.nod _
  · rcases gs o a ha with ⟨_, q⟩ | ⟨_, q⟩
    · exact (hn a q).2.1
    · exact R.fno o a q
  · obtain ⟨h1, h2, h3, h4⟩ := R.fr a ha
    refine ⟨h1, h2, h3, fun o z => ?_⟩
    rcases gs o a z with ⟨_, q⟩ | ⟨_, q⟩
    · exact (hn a q).2.2 ha
    · exact h4 o q
theorem RE.push0 (R : RE K mg B σ H F env ts vs) (h : Tm K mg F H σ d v []) : RE K mg B σ H F env (ts ++ [d]) (vs ++ [v]) :=
  let ⟨_, r⟩ := R; ⟨_, r.push h (fun a ha => absurd ha List.not_mem_nil) List.nodup_nil⟩
/-- an operand that owns nothing in place of the last ones -/
theorem RE.repl0 (R : RE K mg B σ H F env (ts ++ us) (vs ++ ws)) (hl : us.length = ws.length) (h : Rp K mg F H d v []) : RE K mg B σ H F env (ts ++ [d]) (vs ++ [v]) := (R.drop hl).push0 (Tm.of h)

theorem rs_ne {d : D} (h : ∀ i, d ≠ .sl i) : rs env d = d := by
  cases d with
  | sl i => exact absurd rfl (h i)
  | _ => rfl
/-- what the last operand is -/
theorem REw.read (R : REw K mg B σ H F env ts vs ow) {k : Nat} (h1 : ts[k]? = some d) (h2 : vs[k]? = some v) (hu : rs env d ≠ .un) : ∃ o, Rp K mg F H (rs env d) v (ow o) := by
  have h := R.temp k d v h1 h2
  cases d with
  | sl i =>
    have e : env[i]? = some (rs env (.sl i)) := by
      show env[i]? = some (env.getD i .un)
      rw [List.getD_eq_getElem?_getD]
      cases q : env[i]? with
      | none =>
        exfalso; apply hu
        show env.getD i .un = .un
        rw [List.getD_eq_getElem?_getD, q]; rfl
      | some x => rfl
    obtain ⟨w', e1, r⟩ := R.slot i _ e hu
    have q := h.1
    rw [q] at e1
    cases e1
    exact ⟨_, r⟩
  | _ => exact ⟨.t k, h⟩
theorem RE.last (R : RE K mg B σ H F env (ts ++ [d]) (vs ++ [v])) (hu : rs env d ≠ .un) : ∃ S, Rp K mg F H (rs env d) v S := by
  obtain ⟨ow, r⟩ := R
  have tl := r.tlen
  simp only [List.length_append, List.length_cons, List.length_nil] at tl
  have e2 : (vs ++ [v])[ts.length]? = some v := by
    rw [show ts.length = vs.length by omega]
    simp
  obtain ⟨o, h⟩ := r.read (k := ts.length) (d := d) (v := v) (by simp) e2 hu
  exact ⟨_, h⟩
theorem RE.last2 {d2 : D} {v2 : V} (R : RE K mg B σ H F env (ts ++ [d, d2]) (vs ++ [v, v2])) (hu : rs env d ≠ .un) (hu2 : rs env d2 ≠ .un) : (∃ S, Rp K mg F H (rs env d) v S) ∧ ∃ S, Rp K mg F H (rs env d2) v2 S := by
  obtain ⟨ow, r⟩ := R
  have tl := r.tlen
  simp only [List.length_append, List.length_cons, List.length_nil] at tl
  have hl : ts.length = vs.length := by omega
  obtain ⟨o, h⟩ := r.read (k := ts.length) (d := d) (v := v) (by simp) (by rw [hl]; simp) hu
  obtain ⟨o2, h2⟩ := r.read (k := ts.length + 1) (d := d2) (v := v2) (by simp) (by rw [hl]; simp) hu2
  exact ⟨⟨_, h⟩, _, h2⟩
theorem RE.ex (R : RE K mg B σ H F env ts vs) : Ex F H := let ⟨_, r⟩ := R; r.ex
theorem RE.newF (R : RE K mg B σ H F env ts vs) {p : Addr} {o : HO} (h : H p = none) : RE K mg B σ (upd H p o) (upd F p o) env ts vs := let ⟨_, r⟩ := R; ⟨_, r.newF h⟩
end
end DL
set_option Elab.async false
set_option linter.all false
set_option maxRecDepth 100000
set_option maxHeartbeats 2000000
/-! DLb2: slots forgotten, stored, frozen; temporaries taken, made into one. -/
namespace DL
open PySem L2
section
variable {K : PySem.W.Frag} {mg : Str → Option Value} {B : Bd} {σ : St} {F F' H H' : Hp} {env ts us : List D} {vs ws : List V} {d : D} {v : V} {ow : Own → List Addr}

def offS (ow : Own → List Addr) (i : Nat) (S : List Addr) : Own → List Addr := fun o => if o = .s i then S else ow o
theorem offS_in {i : Nat} {S : List Addr} : offS ow i S (.s i) = S := if_pos rfl
theorem offS_ne {i : Nat} {S : List Addr} {o : Own} (h : o ≠ .s i) : offS ow i S o = ow o := if_neg h

/-- a slot is forgotten -/
theorem REw.unslot (R : REw K mg B σ H F env ts vs ow) (i : Nat) : REw K mg B σ H F (env.set i .un) ts vs (offS ow i []) := by
  have sub : ∀ o a, a ∈ offS ow i [] o → a ∈ ow o := fun o a h => by
    by_cases e : o = .s i
    · subst e; rw [offS_in] at h; exact absurd h List.not_mem_nil
    · rw [offS_ne e] at h; exact h
  refine ⟨by simp [R.len], R.tlen, fun j d e1 e2 => ?_, fun j hj => ?_, fun k d v e1 e2 => ?_, fun k hk => ?_, fun o o' a h1 h2 => R.uniq o o' a (sub o a h1) (sub o' a h2), fun o => ?_, fun o a h => R.fno o a (sub o a h), R.ex, fun a ha => ?_, R.pin⟩
  · by_cases hj : j = i
    · subst hj
      exfalso
      rw [List.getElem?_set_self' ] at e1
      cases q : env[j]? with
      | none => rw [q] at e1; cases e1
      | some x => rw [q] at e1; cases e1; exact e2 rfl
    · rw [List.getElem?_set_ne (Ne.symm hj)] at e1
      rw [offS_ne (by intro z; cases z; exact hj rfl)]
      exact R.slot j d e1 e2
  · by_cases hj2 : j = i
    · subst hj2; exact offS_in
    · rw [offS_ne (by intro z; cases z; exact hj2 rfl)]
      rw [List.getElem?_set_ne (Ne.symm hj2)] at hj
      exact R.sun j hj
  · rw [offS_ne (by intro z; cases z)]; exact R.temp k d v e1 e2
  · rw [offS_ne (by intro z; cases z)]; exact R.tun k hk
  · by_cases e : o = .s i
    · subst e; rw [offS_in]; exact List.nodup_nil
    · rw [offS_ne e]; exact R.nod o
  · obtain ⟨h1, h2, h3, h4⟩ := R.fr a ha
    exact ⟨h1, h2, h3, fun o z => h4 o (sub o a z)⟩

/-- a forgotten slot is told again: its value stands there -/
theorem REw.putS (R : REw K mg B σ H F env ts vs ow) {i : Nat} {S : List Addr} (hi : i < env.length) (h0 : ow (.s i) = []) (hv : σ[i]? = some (some v)) (h : Rp K mg F H d v S)
    (hn : ∀ a ∈ S, (∀ o, a ∉ ow o) ∧ F a = none ∧ ¬ B.out a) (hd : S.Nodup) : REw K mg B σ H F (env.set i d) ts vs (offS ow i S) := by
  have gs : ∀ o a, a ∈ offS ow i S o → (o = .s i ∧ a ∈ S) ∨ (o ≠ .s i ∧ a ∈ ow o) := fun o a ha => by
    by_cases e : o = .s i
    · subst e; rw [offS_in] at ha; exact .inl ⟨rfl, ha⟩
    · rw [offS_ne e] at ha; exact .inr ⟨e, ha⟩
  refine ⟨by simp [R.len], R.tlen, fun j d' e1 e2 => ?_, fun j hj => ?_, fun k d v e1 e2 => ?_, fun k hk => ?_, fun o o' a h1 h2 => ?_, fun o => ?_, fun o a ha => ?_, R.ex, fun a ha => ?_, R.pin⟩
  · by_cases hj : j = i
    · subst hj
      rw [List.getElem?_set_self hi] at e1
      cases e1
      rw [offS_in]
      exact ⟨v, hv, h⟩
    · rw [List.getElem?_set_ne (Ne.symm hj)] at e1
      rw [offS_ne (by intro z; cases z; exact hj rfl)]
      exact R.slot j d' e1 e2
  · by_cases hj2 : j = i
    · subst hj2
      exfalso
      rw [List.getElem?_set_self hi] at hj
      rcases hj with z | z
      · cases z
      · cases z; unfold Rp at h; exact h
    · rw [offS_ne (by intro z; cases z; exact hj2 rfl)]
      rw [List.getElem?_set_ne (Ne.symm hj2)] at hj
      exact R.sun j hj
  · rw [offS_ne (by intro z; cases z)]; exact R.temp k d v e1 e2
  · rw [offS_ne (by intro z; cases z)]; exact R.tun k hk
  · rcases gs o a h1 with ⟨rfl, q1⟩ | ⟨n1, q1⟩ <;> rcases gs o' a h2 with ⟨rfl, q2⟩ | ⟨n2, q2⟩
    · rfl
    · exact absurd q2 ((hn a q1).1 o')
    · exact absurd q1 ((hn a q2).1 o)
    · exact R.uniq o o' a q1 q2
  · by_cases e : o = .s i
    · subst e; rw [offS_in]; exact hd
    · rw [offS_ne e]; exact R.nod o
  · rcases gs o a ha with ⟨_, q⟩ | ⟨_, q⟩
    · exact (hn a q).2.1
    · exact R.fno o a q
  · obtain ⟨h1, h2, h3, h4⟩ := R.fr a ha
    refine ⟨h1, h2, h3, fun o z => ?_⟩
    rcases gs o a z with ⟨_, q⟩ | ⟨_, q⟩
    · exact (hn a q).2.2 ha
    · exact h4 o q

/-- no temporary is an alias -/
def noAl (ts : List D) : Prop := ∀ d ∈ ts, ∀ i, d ≠ .sl i
/-- a forgotten slot's value changes -/
theorem REw.resig (R : REw K mg B σ H F env ts vs ow) {i : Nat} {x : Option V} (hu : env[i]? = none ∨ env[i]? = some .un) (hp : ∀ p ∈ B.pins, p.1 ≠ i) (ha : noAl ts) : REw K mg B (σ.set i x) H F env ts vs ow := by
  refine ⟨by simp [R.len], R.tlen, fun j d e1 e2 => ?_, R.sun, fun k d v e1 e2 => ?_, R.tun, R.uniq, R.nod, R.fno, R.ex, R.fr, fun p h => ?_⟩
  · by_cases hj : j = i
    · subst hj
      exfalso
      rcases hu with z | z
      · rw [z] at e1; cases e1
      · rw [z] at e1; cases e1; exact e2 rfl
    · rw [List.getElem?_set_ne (Ne.symm hj)]; exact R.slot j d e1 e2
  · have hm : d ∈ ts := List.mem_of_getElem? e1
    exact Tm.of ((R.temp k d v e1 e2).rp (ha d hm))
  · rw [List.getElem?_set_ne (Ne.symm (hp p h))]; exact R.pin p h

/-- the last temporary is taken -/
theorem REw.take1 (R : REw K mg B σ H F env (ts ++ [d]) (vs ++ [v]) ow) (hd : ∀ i, d ≠ .sl i) : ∃ ow' S, REw K mg B σ H F env ts vs ow' ∧ Rp K mg F H d v S ∧ S.Nodup ∧ (∀ a ∈ S, (∀ o, a ∉ ow' o) ∧ F a = none ∧ ¬ B.out a) ∧ (∀ i, ow' (.s i) = ow (.s i)) ∧ (∀ o a, a ∈ ow' o → a ∈ ow o) ∧ ∀ a ∈ S, ∃ o, a ∈ ow o := by
  have tl := R.tlen
  simp only [List.length_append, List.length_cons, List.length_nil] at tl
  have hl : ts.length = vs.length := by omega
  refine ⟨low ow ts.length, ow (.t ts.length), R.drop rfl, (R.temp ts.length d v (by simp) (by rw [hl]; simp)).rp hd, R.nod _, fun a ha => ⟨fun o z => ?_, R.fno _ a ha, fun z => (R.fr a z).2.2.2 _ ha⟩, fun i => rfl, fun o a h => mem_low h, fun a ha => ⟨_, ha⟩⟩
  have e := R.uniq _ _ a (mem_low z) ha
  subst e
  unfold low at z
  dsimp only at z
  rw [if_neg (Nat.lt_irrefl _)] at z
  exact absurd z List.not_mem_nil

/-- the last temporary goes into a slot -/
theorem RE.store (R : RE K mg B σ H F env (ts ++ [d]) (vs ++ [v])) {i : Nat} (hp : ∀ p ∈ B.pins, p.1 ≠ i) (hd : ∀ j, d ≠ .sl j) (ha : noAl ts) : RE K mg B (σ.set i (some v)) H F (env.set i d) ts vs := by
  obtain ⟨ow, r⟩ := R
  by_cases hi : i < env.length
  · have r1 := r.unslot i
    have r2 := r1.resig (i := i) (x := some v) (.inr (by rw [List.getElem?_set_self hi])) hp (fun x hx j => by
      rcases List.mem_append.mp hx with z | z
      · exact ha x z j
      · rcases List.mem_cons.mp z with z | z
        · rw [z]; exact hd j
        · exact absurd z List.not_mem_nil)
    obtain ⟨ow', S, r3, rp, nd, hn, e0, _⟩ := r2.take1 hd
    have hs : i < σ.length := by rw [← r.len]; exact hi
    have r4 := r3.putS (i := i) (v := v) (by simp [hi]) (by rw [e0, offS_in]) (by rw [List.getElem?_set_self hs]) rp hn nd
    rw [List.set_set] at r4
    exact ⟨_, r4⟩
  · have hs : σ.length ≤ i := by rw [← r.len]; omega
    rw [List.set_eq_of_length_le hs, List.set_eq_of_length_le (by omega : env.length ≤ i)]
    exact RE.drop ⟨ow, r⟩ rfl

/-- what is owned by nobody that is told may be frozen -/
theorem REw.adopt (R : REw K mg B σ H F env ts vs ow) {ods : Addr → Obj} {S : List Addr} (hn : ∀ a ∈ S, (∀ o, a ∉ ow o) ∧ ¬ B.out a) (n : ∀ a ∈ S, F a = none) : REw K mg B σ (lk ods S H) (DL.adopt F (lk ods S H) S) env ts vs ow :=
  R.grow (ex_adopt n) (fun o a ha => lk_out fun z => (hn a z).1 o ha) (fun o a ha => by rw [adopt_out fun z => (hn a z).1 o ha]; exact R.fno o a ha) (adopt_ex (lk_ex R.ex n)) fun a ha => ⟨lk_out fun z => (hn a z).2 ha, adopt_out fun z => (hn a z).2 ha⟩

/-- an alias is frozen: the slot, and the last operand -/
theorem RE.fzSlot {i : Nat} (R : RE K mg B σ H F env (ts ++ [.sl i]) (vs ++ [v])) (hu : isUn (env.getD i .un) = false) : ∃ S, ∀ ods, ∃ F', RE K mg B σ (lk ods S H) F' (env.set i (fz (env.getD i .un))) (ts ++ [fz (env.getD i .un)]) (vs ++ [v]) := by
  obtain ⟨ow, r⟩ := R
  have tl := r.tlen
  simp only [List.length_append, List.length_cons, List.length_nil] at tl
  have hl : ts.length = vs.length := by omega
  obtain ⟨hv, h0⟩ : σ[i]? = some (some v) ∧ _ := r.temp ts.length (.sl i) v (by simp) (by rw [hl]; simp)
  rw [List.getD_eq_getElem?_getD] at hu ⊢
  cases e : env[i]? with
  | none => rw [e] at hu; cases hu
  | some d =>
    rw [e] at hu
    simp only [Option.getD_some] at hu ⊢
    have nun : d ≠ .un := fun z => by rw [z] at hu; cases hu
    obtain ⟨v', e1, rp⟩ := r.slot i d e nun
    rw [hv] at e1
    cases e1
    have hi : i < env.length := (List.getElem?_eq_some_iff.mp e).1
    refine ⟨ow (.s i), fun ods => ?_⟩
    have n : ∀ a ∈ ow (.s i), F a = none := fun a ha => r.fno _ a ha
    have r1 := (r.drop (us := [.sl i]) (ws := [v]) rfl).unslot i
    have dis : ∀ a ∈ ow (.s i), ∀ o, a ∉ offS (low ow ts.length) i [] o := fun a ha o z => by
      by_cases q : o = .s i
      · subst q; rw [offS_in] at z; exact absurd z List.not_mem_nil
      · rw [offS_ne q] at z
        exact q (r.uniq _ _ a (mem_low z) ha)
    have r2 := r1.adopt (ods := ods) (S := ow (.s i)) (fun a ha => ⟨dis a ha, fun z => (r.fr a z).2.2.2 _ ha⟩) n
    have rp2 := rp.fz (ods := ods) n fun a ha => ha
    have r3 := r2.putS (i := i) (v := v) (d := fz d) (S := []) (by simp [hi]) offS_in hv rp2 (fun a ha => absurd ha List.not_mem_nil) List.nodup_nil
    rw [List.set_set] at r3
    exact ⟨_, RE.push0 ⟨_, r3⟩ (Tm.of rp2)⟩
/-- a temporary is frozen -/
theorem RE.fzLast (R : RE K mg B σ H F env (ts ++ [d]) (vs ++ [v])) (hd : ∀ j, d ≠ .sl j) : ∃ S, ∀ ods, ∃ F', RE K mg B σ (lk ods S H) F' env (ts ++ [fz d]) (vs ++ [v]) ∧ Rp K mg F' (lk ods S H) (fz d) v [] := by
  obtain ⟨ow, r⟩ := R
  obtain ⟨ow', S, r1, rp, nd, hn, _⟩ := r.take1 hd
  refine ⟨S, fun ods => ?_⟩
  have n : ∀ a ∈ S, F a = none := fun a ha => (hn a ha).2.1
  have r2 := r1.adopt (ods := ods) (S := S) (fun a ha => ⟨(hn a ha).1, (hn a ha).2.2⟩) n
  have rp2 := rp.fz (ods := ods) n fun a ha => ha
  exact ⟨_, RE.push0 ⟨_, r2⟩ (Tm.of rp2), rp2⟩

/-- what stands between is dropped -/
theorem RE.dropMid (R : RE K mg B σ H F env (ts ++ us ++ [d]) (vs ++ ws ++ [v])) (hl : us.length = ws.length) (hd : ∀ j, d ≠ .sl j) : RE K mg B σ H F env (ts ++ [d]) (vs ++ [v]) := by
  obtain ⟨ow, r⟩ := R
  obtain ⟨ow', S, r1, rp, nd, hn, _⟩ := r.take1 hd
  exact ⟨_, (r1.drop hl).push (Tm.of rp) (fun a ha => ⟨fun o z => (hn a ha).1 o (mem_low z), (hn a ha).2⟩) nd⟩

/-- several temporaries are taken -/
theorem REw.takes : ∀ {us : List D} {ws : List V} {ts : List D} {vs : List V} {ow : Own → List Addr}, us.length = ws.length → noAl us → REw K mg B σ H F env (ts ++ us) (vs ++ ws) ow → ∃ ow' S, REw K mg B σ H F env ts vs ow' ∧ RpL K mg F H us ws S ∧ S.Nodup ∧ (∀ a ∈ S, (∀ o, a ∉ ow' o) ∧ F a = none ∧ ¬ B.out a) ∧ (∀ i, ow' (.s i) = ow (.s i)) ∧ (∀ o a, a ∈ ow' o → a ∈ ow o) ∧ ∀ a ∈ S, ∃ o, a ∈ ow o
  | [], [], ts, vs, ow, _, _, R => by
    rw [List.append_nil, List.append_nil] at R
    exact ⟨ow, [], R, by unfold RpL; exact ⟨rfl, rfl⟩, List.nodup_nil, fun a ha => absurd ha List.not_mem_nil, fun _ => rfl, fun _ _ h => h, fun a ha => absurd ha List.not_mem_nil⟩
  | d :: us, v :: ws, ts, vs, ow, hl, hn, R => by
    have R' : REw K mg B σ H F env ((ts ++ [d]) ++ us) ((vs ++ [v]) ++ ws) ow := by
      rw [List.append_assoc, List.append_assoc]
      exact R
    obtain ⟨ow1, S2, r1, rp2, nd2, hn2, e1, sb1, in1⟩ := REw.takes (by simpa using hl) (fun x hx => hn x (List.mem_cons_of_mem _ hx)) R'
    obtain ⟨ow2, S1, r2, rp1, nd1, hn1, e2, sb2, in2⟩ := r1.take1 (hn d List.mem_cons_self)
    have tl := r1.tlen
    refine ⟨ow2, S1 ++ S2, r2, ?_, ?_, fun a ha => ?_, fun i => (e2 i).trans (e1 i), fun o a h => sb1 o a (sb2 o a h), fun a ha => ?_⟩
    · unfold RpL
      exact ⟨v, ws, S1, S2, rfl, rfl, rp1, rp2⟩
    · refine List.nodup_append.mpr ⟨nd1, nd2, fun a ha b hb z => ?_⟩
      subst z
      obtain ⟨o, ho⟩ := in2 a ha
      exact (hn2 a hb).1 o ho
    · rcases List.mem_append.mp ha with ha | ha
      · exact hn1 a ha
      · exact ⟨fun o z => (hn2 a ha).1 o (sb2 o a z), (hn2 a ha).2⟩
    · rcases List.mem_append.mp ha with ha | ha
      · obtain ⟨o, ho⟩ := in2 a ha
        exact ⟨o, sb1 o a ho⟩
      · exact in1 a ha
  | [], _ :: _, _, _, _, h, _, _ => by cases h
  | _ :: _, [], _, _, _, h, _, _ => by cases h

/-- temporaries become one owned object -/
theorem RE.newOwn {p : Addr} {o : HO} (R : RE K mg B σ H F env (ts ++ us) (vs ++ ws)) (hl : us.length = ws.length) (hn : noAl us) (hp : H p = none)
    (h : ∀ S, RpL K mg F (upd H p o) us ws S → Rp K mg F (upd H p o) d (.ref p) (p :: S)) : RE K mg B σ (upd H p o) F env (ts ++ [d]) (vs ++ [.ref p]) := by
  obtain ⟨ow, r⟩ := R
  obtain ⟨ow', S, r1, rp, nd, hnn, _, _, hin⟩ := r.takes hl hn
  obtain ⟨n1, n2, n3⟩ := r.nout hp
  have np : ∀ a ∈ S, a ≠ p := fun a ha z => by
    obtain ⟨o', ho⟩ := hin a ha
    rw [z] at ho
    exact n3 o' ho
  have r2 := r1.newH (o := o) hp
  have rp2 := h S (rp.stay (Ex.refl F) fun a ha => upd_ne (np a ha))
  refine ⟨_, r2.push (Tm.of rp2) (fun a ha => ?_) (List.nodup_cons.mpr ⟨fun z => np p z rfl, nd⟩)⟩
  rcases List.mem_cons.mp ha with z | ha
  · subst z
    exact ⟨(r1.nout hp).2.2, n2, n1⟩
  · exact hnn a ha
/-- temporaries become a tuple -/
theorem RE.newTup {p : Addr} (R : RE K mg B σ H F env (ts ++ us) (vs ++ ws)) (hl : us.length = ws.length) (hn : noAl us) (hp : H p = none) : RE K mg B σ (upd H p (.tup ws)) (upd F p (.tup ws)) env (ts ++ [.tup us]) (vs ++ [.ref p]) := by
  obtain ⟨ow, r⟩ := R
  have r0 := r.newF (o := .tup ws) hp
  obtain ⟨ow', S, r1, rp, nd, hnn, _, _, hin⟩ := r0.takes hl hn
  refine ⟨_, r1.push (Tm.of ?_) hnn nd⟩
  unfold Rp
  exact ⟨p, ws, rfl, rp, Or.inl (Or.inl upd_same)⟩
theorem RE.newLst {p : Addr} (R : RE K mg B σ H F env (ts ++ us) (vs ++ ws)) (hl : us.length = ws.length) (hn : noAl us) (hp : H p = none) : RE K mg B σ (upd H p (.lst ws)) F env (ts ++ [.lst true us]) (vs ++ [.ref p]) :=
  R.newOwn hl hn hp fun S h => by
    unfold Rp
    exact ⟨p, ws, S, rfl, h, by rw [if_pos rfl]; exact ⟨upd_same, rfl⟩⟩
theorem RE.newDct {p : Addr} {ks : List Key} (R : RE K mg B σ H F env (ts ++ us) (vs ++ ws)) (hl : us.length = ws.length) (hk : ks.length = us.length) (hn : noAl us) (hp : H p = none) : RE K mg B σ (upd H p (.dK (ks.zip ws))) F env (ts ++ [.dct true ks us]) (vs ++ [.ref p]) :=
  R.newOwn hl hn hp fun S h => by
    unfold Rp
    exact ⟨p, ws, S, rfl, hk, h, by rw [if_pos rfl]; exact ⟨upd_same, rfl⟩⟩
/-- an owned list of frozen things that stand elsewhere -/
theorem RE.newLst0 {p : Addr} {xs : List D} (R : RE K mg B σ H F env ts vs) (h : RpL K mg F H xs ws []) (hp : H p = none) : RE K mg B σ (upd H p (.lst ws)) F env (ts ++ [.lst true xs]) (vs ++ [.ref p]) := by
  obtain ⟨ow, r⟩ := R
  obtain ⟨n1, n2, n3⟩ := r.nout hp
  have r2 := r.newH (o := .lst ws) hp
  refine ⟨_, r2.push (S := [p]) (Tm.of ?_) (fun a ha => ?_) (List.nodup_cons.mpr ⟨List.not_mem_nil, List.nodup_nil⟩)⟩
  · unfold Rp
    exact ⟨p, ws, [], rfl, h.stay (Ex.refl F) fun a ha => absurd ha List.not_mem_nil, by rw [if_pos rfl]; exact ⟨upd_same, rfl⟩⟩
  · rcases List.mem_cons.mp ha with z | ha
    · subst z; exact ⟨n3, n2, n1⟩
    · exact absurd ha List.not_mem_nil
end
end DL
set_option Elab.async false
set_option linter.all false
set_option maxRecDepth 100000
set_option maxHeartbeats 2000000
/-! DLc: readings from denotations: expressions, arguments, tests. -/
namespace DL
open PySem L2

inductive Res (α : Type) where
  | ok (a : α) (env : List D)
  | er (c : Str) (ns : List Str) (xs : List D) (env : List D)
  | no
abbrev Dn (α : Type) := List D → Res α
@[simp] def Res.bind {α β : Type} (r : Res α) (f : α → Dn β) : Res β := match r with
  | .ok a e => f a e
  | .er c ns xs e => .er c ns xs e
  | .no => .no
@[simp] abbrev Dn.bind {α β : Type} (m : Dn α) (f : α → Dn β) : Dn β := fun env => (m env).bind f

/-- an exception as it flies: its class, its own dict -/
def ErrIs (K : PySem.W.Frag) (mg : Str → Option Value) (F H : Hp) (c : Str) (ns : List Str) (xs : List D) (cls : Value) (dx : Option Addr) : Prop :=
  ∃ C, mg c = some (.ref C) ∧ cls = .ref C ∧ ((ns = [] ∧ xs = [] ∧ dx = none) ∨ ∃ d vs, dx = some d ∧ F d = some (.xd (ns.zip vs)) ∧ ns.length = xs.length ∧ RpL K mg F H xs vs [])

/-- what must hold of a result -/
def ResP {α : Type} (r : Res α) (k : α → List D → Prop) (g : Str → List Str → List D → List D → Prop) : Prop := match r with
  | .ok a e => k a e
  | .er c ns xs e => g c ns xs e
  | .no => False
theorem ResP.bind {α β : Type} {r : Res α} {f : α → Dn β} {k : β → List D → Prop} {g : Str → List Str → List D → List D → Prop} (h : ResP (r.bind f) k g) : ResP r (fun a e => ResP (f a e) k g) g := by
  cases r with
  | ok a e => exact h
  | er c ns xs e => exact h
  | no => exact h
theorem ResP.mono {α : Type} {r : Res α} {k k' : α → List D → Prop} {g g' : Str → List Str → List D → List D → Prop} (h : ResP r k g) (hk : ∀ a e, k a e → k' a e) (hg : ∀ c ns xs e, g c ns xs e → g' c ns xs e) : ResP r k' g' := by
  cases r with
  | ok a e => exact hk _ _ h
  | er c ns xs e => exact hg _ _ _ _ h
  | no => exact h

section
variable (K : PySem.W.Frag) (mg : Str → Option Value) (W : WX)
/-- an error's end -/
def ErrK (B : Bd) (σ : St) (ts : List D) (vs : List V) : Str → List Str → List D → List D → Prop := fun c ns xs e =>
  ∀ cls dx H' F', RE K mg B σ H' F' e ts vs → ErrIs K mg F' H' c ns xs cls dx → W cls dx σ H'
def rdE (den : Dn D) : TE := fun σ H Q => ∃ B F env ts vs, RE K mg B σ H F env ts vs ∧
  ResP (den env) (fun d e => ∀ v H' F', RE K mg B σ H' F' e (ts ++ [d]) (vs ++ [v]) → Q v H') (ErrK K mg W B σ ts vs)
def rdA (den : Dn (List D)) : TA := fun σ H Q => ∃ B F env ts vs, RE K mg B σ H F env ts vs ∧
  ResP (den env) (fun ds e => ∀ ws H' F', ds.length = ws.length → RE K mg B σ H' F' e (ts ++ ds) (vs ++ ws) → Q ws H') (ErrK K mg W B σ ts vs)
def rdT (den : Dn Bool) : TT := fun σ H Q => ∃ B F env ts vs, RE K mg B σ H F env ts vs ∧
  ResP (den env) (fun b e => ∀ H' F', RE K mg B σ H' F' e ts vs → Q b H') (ErrK K mg W B σ ts vs)
end
abbrev GE (X : Cx) (W : WX) (e : Expr) (den : Dn D) : Prop := PE X e (rdE X.K X.mg W den)
abbrev GA (X : Cx) (W : WX) (es : List Expr) (den : Dn (List D)) : Prop := PA X es (rdA X.K X.mg W den)
abbrev GT (X : Cx) (W : WX) (e : Expr) (den : Dn Bool) : Prop := PT X e (rdT X.K X.mg W den)
abbrev GW (X : Cx) (W : WX) (e : Expr) (den : Dn Bool) : Prop := PW X e (rdT X.K X.mg W den)

theorem PE.imp {X : Cx} {e : Expr} {t t' : TE} (h : PE X e t) (k : ∀ σ H Q, t' σ H Q → t σ H Q) : PE X e t' := ⟨fun pins s σ H Q I q => h.run pins s σ H Q I (k σ H Q q)⟩
theorem PA.imp {X : Cx} {e : List Expr} {t t' : TA} (h : PA X e t) (k : ∀ σ H Q, t' σ H Q → t σ H Q) : PA X e t' := ⟨fun pos pins s σ H Q I q => h.run pos pins s σ H Q I (k σ H Q q)⟩
theorem PT.imp {X : Cx} {e : Expr} {t t' : TT} (h : PT X e t) (k : ∀ σ H Q, t' σ H Q → t σ H Q) : PT X e t' := ⟨fun pins s σ H Q I q => h.run pins s σ H Q I (k σ H Q q)⟩
theorem PW.imp {X : Cx} {e : Expr} {t t' : TT} (h : PW X e t) (k : ∀ σ H Q, t' σ H Q → t σ H Q) : PW X e t' := ⟨fun wh pins s σ H Q I q => h.run wh pins s σ H Q I (k σ H Q q)⟩

/-! ### denotations -/
def isSl : D → Bool
  | .sl _ => true
  | _ => false
/-- a slot's value: itself where nothing is owned, else an alias -/
@[simp] def dVar (i : Nat) : Dn D := fun env => match env[i]? with
  | some d => if froz d then .ok d env else if isUn d then .no else .ok (.sl i) env
  | none => .no
@[simp] def dC (d : D) : Dn D := fun env => .ok d env
/-- used up: an alias is frozen -/
def dUse (d : D) : Dn D := fun env => match d with
  | .sl i => if isUn (env.getD i .un) || isSl (fz (env.getD i .un)) then .no else .ok (fz (env.getD i .un)) (env.set i (fz (env.getD i .un)))
  | d => .ok d env
@[simp] abbrev dU (m : Dn D) : Dn D := m.bind dUse
@[simp] def lift {α : Type} (o : Option α) : Dn α := fun env => match o with
  | some a => .ok a env
  | none => .no
@[simp] def dOp (f : D → D → Option D) (a b : Dn D) : Dn D := a.bind fun x => b.bind fun y => fun env => lift (f (rs env x) (rs env y)) env
@[simp] def dUn (f : D → Option D) (a : Dn D) : Dn D := a.bind fun x => fun env => lift (f (rs env x)) env
@[simp] def dNil : Dn (List D) := fun env => .ok [] env
@[simp] def dCons (a : Dn D) (r : Dn (List D)) : Dn (List D) := a.bind fun x => r.bind fun xs => fun env => .ok (x :: xs) env
def asBool : D → Option Bool
  | .bl b => some b
  | _ => none
@[simp] def dTest (a : Dn D) : Dn Bool := a.bind fun x => fun env => lift (asBool (rs env x)) env
@[simp] def dNot (a : Dn Bool) : Dn Bool := a.bind fun b => fun env => .ok (!b) env
@[simp] def dAnd (a b : Dn Bool) : Dn Bool := a.bind fun c => if c then b else fun env => .ok false env
@[simp] def dOr (a b : Dn Bool) : Dn Bool := a.bind fun c => if c then fun env => .ok true env else b
@[simp] def dIf (c : Dn Bool) (a b : Dn D) : Dn D := c.bind fun k => if k then a else b
@[simp] def dB (c : Dn Bool) : Dn D := c.bind fun b => fun env => .ok (.bl b) env
@[simp] def dLst (r : Dn (List D)) : Dn D := r.bind fun xs => fun env => if xs.length ≤ sizeLine then .ok (.lst true xs) env else .no
@[simp] def dTup (r : Dn (List D)) : Dn D := r.bind fun xs => fun env => if xs.length ≤ sizeLine then .ok (.tup xs) env else .no
/-- a call by values -/
@[simp] def dCall (f : List D → Option D) (r : Dn (List D)) : Dn D := r.bind fun xs => fun env => if (xs.map (rs env)).any isUn then .no else lift (f (xs.map (rs env))) env
/-- a chain of two comparisons -/
@[simp] def dChain (f g : D → D → Option D) (a b c : Dn D) : Dn Bool := a.bind fun x => b.bind fun y => fun env => (lift ((f (rs env x) (rs env y)).bind asBool) env).bind fun k => if k then c.bind fun z => fun env => lift ((g (rs env y) (rs env z)).bind asBool) env else fun env => .ok false env

section
variable (K : PySem.W.Frag) (mg : Str → Option Value) (W : WX)
def rdEU (den : Dn D) : TE := fun σ H Q => ∃ B F env ts vs, RE K mg B σ H F env ts vs ∧
  ResP (den env) (fun d e => ∀ v H' F', (∀ i, d ≠ .sl i) → RE K mg B σ H' F' e (ts ++ [d]) (vs ++ [v]) → Q v H') (ErrK K mg W B σ ts vs)
def rdAU (den : Dn (List D)) : TA := fun σ H Q => ∃ B F env ts vs, RE K mg B σ H F env ts vs ∧
  ResP (den env) (fun ds e => ∀ ws H' F', ds.length = ws.length → noAl ds → RE K mg B σ H' F' e (ts ++ ds) (vs ++ ws) → Q ws H') (ErrK K mg W B σ ts vs)
end
abbrev GEU (X : Cx) (W : WX) (e : Expr) (den : Dn D) : Prop := PE X e (rdEU X.K X.mg W den)
abbrev GAU (X : Cx) (W : WX) (es : List Expr) (den : Dn (List D)) : Prop := PA X es (rdAU X.K X.mg W den)

/-- an operation by trees -/
def OpS (K : PySem.W.Frag) (mg : Str → Option Value) (r : R2) (f : D → D → Option D) : Prop :=
  ∀ (B : Bd) (σ : St) (H F : Hp) (env ts : List D) (vs : List V) (dx dy : D) (vx vy : V) (Sx Sy : List Addr) (d : D) (Q : VK), RE K mg B σ H F env ts vs → Rp K mg F H dx vx Sx → Rp K mg F H dy vy Sy → f dx dy = some d →
    (∀ v H' F', RE K mg B σ H' F' env (ts ++ [d]) (vs ++ [v]) → Q v H') → r vx vy H Q
def UnS (K : PySem.W.Frag) (mg : Str → Option Value) (r : V → Hp → VK → Prop) (f : D → Option D) : Prop :=
  ∀ (B : Bd) (σ : St) (H F : Hp) (env ts : List D) (vs : List V) (dx : D) (vx : V) (Sx : List Addr) (d : D) (Q : VK), RE K mg B σ H F env ts vs → Rp K mg F H dx vx Sx → f dx = some d →
    (∀ v H' F', RE K mg B σ H' F' env (ts ++ [d]) (vs ++ [v]) → Q v H') → r vx H Q
def AllRp (K : PySem.W.Frag) (mg : Str → Option Value) (F H : Hp) : List D → List V → Prop
  | [], vs => vs = []
  | d :: ds, vs => ∃ v r, vs = v :: r ∧ (∃ S, Rp K mg F H d v S) ∧ AllRp K mg F H ds r
def CaS (K : PySem.W.Frag) (mg : Str → Option Value) (r : List V → Hp → VK → Prop) (f : List D → Option D) : Prop :=
  ∀ (B : Bd) (σ : St) (H F : Hp) (env ts : List D) (vs : List V) (dx : List D) (vx : List V) (d : D) (Q : VK), RE K mg B σ H F env ts vs → AllRp K mg F H dx vx → f dx = some d →
    (∀ v H' F', RE K mg B σ H' F' env (ts ++ [d]) (vs ++ [v]) → Q v H') → r vx H Q
/-- two rules for one operator -/
@[simp] def fOr (f g : D → D → Option D) : D → D → Option D := fun x y => match f x y with
  | some d => some d
  | none => g x y
theorem OpS.or {K : PySem.W.Frag} {mg : Str → Option Value} {r r' : R2} {f g : D → D → Option D} (h : OpS K mg r f) (h' : OpS K mg r' g) : OpS K mg (fun x y H Q => r x y H Q ∨ r' x y H Q) (fOr f g) :=
  fun B σ H F env ts vs dx dy vx vy Sx Sy d Q R h1 h2 e k => by
    unfold fOr at e
    cases q : f dx dy with
    | some d' =>
      rw [q] at e
      cases e
      exact Or.inl (h B σ H F env ts vs dx dy vx vy Sx Sy _ Q R h1 h2 q k)
    | none =>
      rw [q] at e
      exact Or.inr (h' B σ H F env ts vs dx dy vx vy Sx Sy d Q R h1 h2 e k)

section
variable {X : Cx} {W : WX} {e a b c : Expr} {es : List Expr} {pos p : Pos} {da db dc : Dn D} {dr : Dn (List D)} {dt du : Dn Bool}

theorem isUn_of {d : D} (h : isUn d = false) : d ≠ .un := fun z => by rw [z] at h; cases h
theorem ge_var (i : Nat) {x : Str} (hN : X.N[i]? = some x := by rfl) (hv : Vis X.env.scope x := by first | exact Or.inl rfl | exact Or.inr (Or.inl rfl) | exact Or.inr (Or.inr rfl)) (hd : (x == ("__debug__" : Str)) = false := by decide)
    (hcd : (x == ("__classdict__" : Str)) = false := by decide) : GE X W (.Name x pos) (dVar i) := by
  refine PE.imp (pe_var hN hv hd hcd) fun σ H Q ⟨B, F, env, ts, vs, R, h⟩ => ?_
  unfold dVar at h
  cases e : env[i]? with
  | none => rw [e] at h; exact h.elim
  | some d =>
    rw [e] at h
    dsimp only at h
    by_cases hf : froz d = true
    · rw [if_pos hf] at h
      obtain ⟨ow, r⟩ := R
      obtain ⟨v, e1, rp⟩ := r.slot i d e (fun z => by rw [z] at hf; cases hf)
      refine ⟨v, e1, h v H F ?_⟩
      have e0 := rp.froz hf
      rw [e0] at rp
      exact RE.push0 ⟨ow, r⟩ (Tm.of rp)
    · rw [if_neg hf] at h
      by_cases hu : isUn d = true
      · rw [if_pos hu] at h; exact h.elim
      · rw [if_neg hu] at h
        obtain ⟨ow, r⟩ := R
        obtain ⟨v, e1, rp⟩ := r.slot i d e (fun z => hu (by rw [z]; rfl))
        exact ⟨v, e1, h v H F (RE.push0 ⟨ow, r⟩ ⟨e1, rfl⟩)⟩
theorem ge_const {v : V} {d : D} (h : PE X e (tC v)) (hr : ∀ F H, Rp X.K X.mg F H d v []) : GE X W e (dC d) :=
  PE.imp h fun σ H Q ⟨B, F, env, ts, vs, R, q⟩ => q v H F (R.push0 (Tm.of (hr F H)))
theorem rp_int {K : PySem.W.Frag} {mg : Str → Option Value} {F H : Hp} {i : Int} : Rp K mg F H (.int i) (.int i) [] := by unfold Rp; exact ⟨rfl, rfl⟩
theorem rp_bl {K : PySem.W.Frag} {mg : Str → Option Value} {F H : Hp} {i : Bool} : Rp K mg F H (.bl i) (.bl i) [] := by unfold Rp; exact ⟨rfl, rfl⟩
theorem rp_str {K : PySem.W.Frag} {mg : Str → Option Value} {F H : Hp} {i : Str} : Rp K mg F H (.str i) (.str i) [] := by unfold Rp; exact ⟨rfl, rfl⟩
theorem rp_non {K : PySem.W.Frag} {mg : Str → Option Value} {F H : Hp} : Rp K mg F H .non .non [] := by unfold Rp; exact ⟨rfl, rfl⟩
theorem ge_int {i j pos} : GE X W (.Constant (.int i) j pos) (dC (.int i)) := ge_const pe_int fun F H => rp_int
theorem ge_bl {b j pos} : GE X W (.Constant (.bool b) j pos) (dC (.bl b)) := ge_const pe_bl fun F H => rp_bl
theorem ge_non {j pos} : GE X W (.Constant .none j pos) (dC .non) := ge_const pe_non fun F H => rp_non
theorem ge_str {x j pos} : GE X W (.Constant (.str x) j pos) (dC (.str x)) := ge_const pe_str fun F H => rp_str
/-- a module's int -/
theorem ge_gint {x : Str} {i : Int} {t : Tok} (hm : X.mg x = some (.int i t)) (hg : Gl X x := by rfl) (hd : (x == ("__debug__" : Str)) = false := by decide) : GE X W (.Name x pos) (dC (.int i)) :=
  ge_const (pe_glob (v := .int i) hg hm (show ∃ t', Value.int i t = Value.int i t' from ⟨t, rfl⟩) hd) fun F H => rp_int

/-! ### arguments -/
theorem ga_nil : GA X W [] dNil := PA.imp pa_nil fun σ H Q ⟨B, F, env, ts, vs, R, q⟩ => q [] H F rfl (by rw [List.append_nil, List.append_nil]; exact R)
theorem gau_nil : GAU X W [] dNil := PA.imp pa_nil fun σ H Q ⟨B, F, env, ts, vs, R, q⟩ => q [] H F rfl (fun d h => absurd h List.not_mem_nil) (by rw [List.append_nil, List.append_nil]; exact R)
theorem ErrK.pop {K : PySem.W.Frag} {mg : Str → Option Value} {B : Bd} {σ : St} {ts us : List D} {vs ws : List V} {c : Str} {ns : List Str} {xs e : List D} (h : ErrK K mg W B σ ts vs c ns xs e) (hl : us.length = ws.length) : ErrK K mg W B σ (ts ++ us) (vs ++ ws) c ns xs e :=
  fun cls dx H' F' R q => h cls dx H' F' (R.drop hl) q
theorem RE.tlen {K : PySem.W.Frag} {mg : Str → Option Value} {B : Bd} {σ : St} {F H : Hp} {env ts : List D} {vs : List V} (R : RE K mg B σ H F env ts vs) : ts.length = vs.length := let ⟨_, r⟩ := R; r.tlen
theorem ga_cons (ha : GE X W e da) (hr : GA X W es dr) (hs : starEach (e :: es) X.env = (false, eval e X.env) :: starEach es X.env := by rfl) : GA X W (e :: es) (dCons da dr) := by
  refine PA.imp (pa_cons ha hr hs) fun σ H Q ⟨B, F, env, ts, vs, R, q⟩ => ?_
  refine ⟨B, F, env, ts, vs, R, (q.bind).mono (fun x e1 h1 v H1 F1 R1 => ?_) fun _ _ _ _ z => z⟩
  refine ⟨B, F1, e1, ts ++ [x], vs ++ [v], R1, (h1.bind).mono (fun xs e2 h2 ws H2 F2 hl R2 => ?_) fun _ _ _ _ z => z.pop rfl⟩
  refine h2 (v :: ws) H2 F2 (by simp [hl]) ?_
  rw [List.append_assoc, List.append_assoc] at R2
  exact R2
theorem gau_cons (ha : GEU X W e da) (hr : GAU X W es dr) (hs : starEach (e :: es) X.env = (false, eval e X.env) :: starEach es X.env := by rfl) : GAU X W (e :: es) (dCons da dr) := by
  refine PA.imp (pa_cons ha hr hs) fun σ H Q ⟨B, F, env, ts, vs, R, q⟩ => ?_
  refine ⟨B, F, env, ts, vs, R, (q.bind).mono (fun x e1 h1 v H1 F1 hx R1 => ?_) fun _ _ _ _ z => z⟩
  refine ⟨B, F1, e1, ts ++ [x], vs ++ [v], R1, (h1.bind).mono (fun xs e2 h2 ws H2 F2 hl hn R2 => ?_) fun _ _ _ _ z => z.pop rfl⟩
  refine h2 (v :: ws) H2 F2 (by simp [hl]) (fun d hd => (List.mem_cons.mp hd).elim (fun z => by rw [z]; exact hx) fun z => hn d z) ?_
  rw [List.append_assoc, List.append_assoc] at R2
  exact R2

/-! ### dicts are locked -/
theorem lock_all {X : Cx} {pins : List (Addr × Obj)} {σ : St} {s : Shared} : ∀ {S : List Addr} {H : Hp}, Inv X pins σ H s → ∃ ods, Inv X pins σ (lk ods S H) s
  | [], H, I => ⟨fun _ => { cls := .none, data := .seq #[] }, by rw [lk_nil]; exact I⟩
  | a :: S, H, I => by
    obtain ⟨ods, J⟩ := lock_all (S := S) I
    by_cases ha : a ∈ S
    · have e : lk ods (a :: S) H = lk ods S H := by
        funext b
        unfold lk
        by_cases hb : b ∈ S
        · rw [if_pos hb, if_pos (List.mem_cons_of_mem _ hb)]
        · rw [if_neg hb, if_neg fun z => (List.mem_cons.mp z).elim (fun z => hb (by rw [z]; exact ha)) hb]
      exact ⟨ods, by rw [e]; exact J⟩
    · have ne : ∀ b, b ≠ a → ∀ ods', (∀ c, c ≠ a → ods' c = ods c) → lk ods' (a :: S) H b = lk ods S H b := fun b hb ods' ho => by
        unfold lk
        by_cases hb2 : b ∈ S
        · rw [if_pos hb2, if_pos (List.mem_cons_of_mem _ hb2), ho b hb]
        · rw [if_neg hb2, if_neg fun z => (List.mem_cons.mp z).elim hb hb2]
      by_cases hk : ∃ kvs, H a = some (.dK kvs)
      · obtain ⟨kvs, hk⟩ := hk
        obtain ⟨od, J2⟩ := J.lock (d := a) (u := .dK kvs) ((lk_out ha).trans hk) True.intro
        refine ⟨fun b => if b = a then od else ods b, ?_⟩
        have e : lk (fun b => if b = a then od else ods b) (a :: S) H = upd (lk ods S H) a (.frz od (.dK kvs)) := by
          funext b
          by_cases hb : b = a
          · subst hb
            rw [upd_same, lk_dK List.mem_cons_self hk, if_pos rfl]
          · rw [upd_ne hb, ne b hb _ fun c hc => if_neg hc]
        rw [e]; exact J2
      · refine ⟨ods, ?_⟩
        have e : lk ods (a :: S) H = lk ods S H := by
          funext b
          by_cases hb : b = a
          · subst hb
            rw [lk_out ha]
            cases q : H b with
            | none => unfold lk; rw [q]; split <;> rfl
            | some o => exact lk_ne q fun kvs z => hk ⟨kvs, by rw [q, z]⟩
          · exact ne b hb ods fun _ _ => rfl
        rw [e]; exact J
theorem PE.ghost {X : Cx} {e : Expr} {t : TE} (h : PE X e t) : PE X e (fun σ H Q => t σ H fun v H1 => ∃ S, ∀ ods, Q v (lk ods S H1)) := ⟨fun pins s σ H Q I q => thn (h.run pins s σ H _ I q) fun u s1 ⟨v, H1, I1, r, S, q1⟩ => by
  obtain ⟨ods, J⟩ := lock_all (S := S) I1
  exact ⟨v, _, J, r, q1 ods⟩⟩
theorem ghost0 {Q : Hp → Prop} {H : Hp} (h : Q H) : ∃ S, ∀ ods, Q (lk ods S H) := ⟨[], fun ods => by rw [lk_nil]; exact h⟩

/-! ### used up -/
theorem ge_use (ha : GE X W e da) : GEU X W e (dU da) := by
  refine PE.imp (PE.ghost ha) fun σ H Q ⟨B, F, env, ts, vs, R, q⟩ => ?_
  refine ⟨B, F, env, ts, vs, R, (q.bind).mono (fun x e1 h1 v H1 F1 R1 => ?_) fun _ _ _ _ z => z⟩
  cases x with
  | sl i =>
    unfold dUse at h1
    dsimp only at h1
    cases hu : isUn (e1.getD i .un) with
    | true => rw [hu, Bool.true_or, if_pos rfl] at h1; exact h1.elim
    | false =>
      rw [hu, Bool.false_or] at h1
      cases hs : isSl (fz (e1.getD i .un)) with
      | true => rw [hs, if_pos rfl] at h1; exact h1.elim
      | false =>
        rw [hs, if_neg Bool.false_ne_true] at h1
        obtain ⟨S, R2⟩ := R1.fzSlot hu
        refine ⟨S, fun ods => ?_⟩
        obtain ⟨F2, R2⟩ := R2 ods
        exact h1 v _ F2 (fun j z => by rw [z] at hs; cases hs) R2
  | _ => exact ghost0 (Q := fun H => Q v H) (h1 v H1 F1 (fun j z => by cases z) R1)
theorem geu_ge (h : GEU X W e da) : GE X W e da := PE.imp h fun σ H Q ⟨B, F, env, ts, vs, R, q⟩ => ⟨B, F, env, ts, vs, R, q.mono (fun _ _ z v H' F' _ R' => z v H' F' R') fun _ _ _ _ z => z⟩

/-! ### displays -/
theorem ge_list (h : GAU X W es dr) : GE X W (.List es pos) (dLst dr) := by
  refine PE.imp (pe_lst h) fun σ H Q ⟨B, F, env, ts, vs, R, q⟩ => ?_
  refine ⟨B, F, env, ts, vs, R, (q.bind).mono (fun xs e1 h1 ws H1 F1 hl hn R1 => ?_) fun _ _ _ _ z => z⟩
  by_cases hz : xs.length ≤ sizeLine
  · rw [if_pos hz] at h1
    exact ⟨by rw [← hl]; exact hz, fun p hp => h1 (.ref p) _ F1 (R1.newLst hl hn hp)⟩
  · rw [if_neg hz] at h1; exact h1.elim
theorem ge_tup {x1} (h : GAU X W es dr) : GE X W (.Tuple es x1 pos) (dTup dr) := by
  refine PE.imp (pe_tup h) fun σ H Q ⟨B, F, env, ts, vs, R, q⟩ => ?_
  refine ⟨B, F, env, ts, vs, R, (q.bind).mono (fun xs e1 h1 ws H1 F1 hl hn R1 => ?_) fun _ _ _ _ z => z⟩
  by_cases hz : xs.length ≤ sizeLine
  · rw [if_pos hz] at h1
    exact ⟨by rw [← hl]; exact hz, fun p hp => h1 (.ref p) _ _ (R1.newTup hl hn hp)⟩
  · rw [if_neg hz] at h1; exact h1.elim

/-! ### operators -/
theorem ResP.lift {α : Type} {o : Option α} {env : List D} {k : α → List D → Prop} {g : Str → List Str → List D → List D → Prop} (h : ResP (DL.lift o env) k g) : ∃ a, o = some a ∧ k a env := by
  unfold DL.lift at h
  cases o with
  | none => exact h.elim
  | some a => exact ⟨a, rfl, h⟩
theorem op_imp {t : TE} {r : R2} {f : D → D → Option D} (hf : OpS X.K X.mg r f) (h1 : ∀ y, f .un y = none) (h2 : ∀ x, f x .un = none) {σ : St} {H : Hp} {Q : VK}
    (h : rdE X.K X.mg W (dOp f da db) σ H Q) : tOp r (rdE X.K X.mg W da) (rdE X.K X.mg W db) σ H Q := by
  obtain ⟨B, F, env, ts, vs, R, q⟩ := h
  refine ⟨B, F, env, ts, vs, R, (q.bind).mono (fun x e1 q1 v H1 F1 R1 => ?_) fun _ _ _ _ z => z⟩
  refine ⟨B, F1, e1, ts ++ [x], vs ++ [v], R1, (q1.bind).mono (fun y e2 q2 u H2 F2 R2 => ?_) fun _ _ _ _ z => z.pop rfl⟩
  obtain ⟨d, e, k⟩ := q2.lift
  rw [List.append_assoc, List.append_assoc] at R2
  obtain ⟨⟨Sx, rx⟩, Sy, ry⟩ := R2.last2 (fun z => by rw [z, h1] at e; cases e) (fun z => by rw [z, h2] at e; cases e)
  exact hf B σ H2 F2 e2 ts vs _ _ v u Sx Sy d Q (R2.drop rfl) rx ry e k
theorem ge_op {op : Operator} {r : R2} {f : D → D → Option D} (ho : OpR X (binaryOp op) r) (hf : OpS X.K X.mg r f) (ha : GE X W a da) (hb : GE X W b db)
    (h1 : ∀ y, f .un y = none := by intro y; first | rfl | (cases y <;> rfl)) (h2 : ∀ x, f x .un = none := by intro x; first | rfl | (cases x <;> rfl)) : GE X W (.BinOp a op b pos) (dOp f da db) :=
  PE.imp (pe_op ho ha hb) fun σ H Q h => op_imp (t := fun _ _ _ => True) hf h1 h2 h
theorem ge_cmp {op : CmpOp} {r : R2} {f : D → D → Option D} (ho : OpR X (compareOp op) r) (hf : OpS X.K X.mg r f) (ha : GE X W a da) (hb : GE X W b db) (hm : behindInMarks op b = false := by first | exact nomark _ | rfl)
    (h1 : ∀ y, f .un y = none := by intro y; first | rfl | (cases y <;> rfl)) (h2 : ∀ x, f x .un = none := by intro x; first | rfl | (cases x <;> rfl)) : GE X W (.Compare a [op] [b] pos) (dOp f da db) :=
  PE.imp (pe_cmpR ho ha hb hm) fun σ H Q h => op_imp (t := fun _ _ _ => True) hf h1 h2 h
theorem ge_un {op : UnaryOp} {r : V → Hp → VK → Prop} {f : D → Option D} (ho : UnR X (unaryOp op) r) (hf : UnS X.K X.mg r f) (ha : GE X W a da) (h1 : f .un = none := by rfl) : GE X W (.UnaryOp op a pos) (dUn f da) := by
  refine PE.imp (pe_un ho ha) fun σ H Q ⟨B, F, env, ts, vs, R, q⟩ => ?_
  refine ⟨B, F, env, ts, vs, R, (q.bind).mono (fun x e1 q1 v H1 F1 R1 => ?_) fun _ _ _ _ z => z⟩
  obtain ⟨d, e, k⟩ := q1.lift
  obtain ⟨S, rx⟩ := R1.last (fun z => by rw [z, h1] at e; cases e)
  exact hf B σ H1 F1 e1 ts vs _ v S d Q (R1.drop rfl) rx e k

/-! ### tests -/
theorem asBool_eq {x : D} {b : Bool} (h : asBool x = some b) : x = .bl b := by
  cases x with
  | bl c => cases h; rfl
  | _ => cases h
theorem rp_bl_inv {K : PySem.W.Frag} {mg : Str → Option Value} {F H : Hp} {b : Bool} {v : V} {S : List Addr} (h : Rp K mg F H (.bl b) v S) : v = .bl b := by
  unfold Rp at h; exact h.1
theorem RE.bool {K : PySem.W.Frag} {mg : Str → Option Value} {B : Bd} {σ : St} {F H : Hp} {env ts : List D} {vs : List V} {d : D} {v : V} {b : Bool} (R : RE K mg B σ H F env (ts ++ [d]) (vs ++ [v])) (h : asBool (rs env d) = some b) : v = .bl b := by
  have e := asBool_eq h
  obtain ⟨S, rx⟩ := R.last (fun z => by rw [z] at e; cases e)
  rw [e] at rx
  exact rp_bl_inv rx
/-- any expression that gives True or False, as a test -/
theorem gt_of (h : GE X W a da) (k : ∀ {t : TE}, PE X a t → PT X a (tB t)) : GT X W a (dTest da) := by
  refine PT.imp (k h) fun σ H Q ⟨B, F, env, ts, vs, R, q⟩ => ?_
  refine ⟨B, F, env, ts, vs, R, (q.bind).mono (fun x e1 q1 v H1 F1 R1 => ?_) fun _ _ _ _ z => z⟩
  obtain ⟨d, e, kk⟩ := q1.lift
  exact ⟨d, R1.bool e, kk H1 F1 (R1.drop rfl)⟩
theorem gt_val (h : GE X W a da) (he : ∀ whole, isTrue a X.env whole = (do let v ← whole; standAt a.pos; holding [v] (truthy v)) := by intro _; rfl) : GT X W a (dTest da) := gt_of h fun t => pt_val t he
theorem gt_cmp {op : CmpOp} {r : R2} {f : D → D → Option D} (ho : OpR X (compareOp op) r) (hf : OpS X.K X.mg r f) (ha : GE X W a da) (hb : GE X W b db) (hm : behindInMarks op b = false := by first | exact nomark _ | rfl)
    (h1 : ∀ y, f .un y = none := by intro y; first | rfl | (cases y <;> rfl)) (h2 : ∀ x, f x .un = none := by intro x; first | rfl | (cases x <;> rfl)) : GT X W (.Compare a [op] [b] pos) (dTest (dOp f da db)) := by
  refine PT.imp (pt_cmpR ho ha hb hm) fun σ H Q ⟨B, F, env, ts, vs, R, q⟩ => ?_
  refine op_imp (t := fun _ _ _ => True) hf h1 h2 (Q := fun x H' => ∃ k, x = .bl k ∧ Q k H') ⟨B, F, env, ts, vs, R, (q.bind).mono (fun x e1 q1 v H1 F1 R1 => ?_) fun _ _ _ _ z => z⟩
  obtain ⟨d, e, kk⟩ := q1.lift
  exact ⟨d, R1.bool e, kk H1 F1 (R1.drop rfl)⟩
theorem gt_not (ha : GT X W a dt) : GT X W (.UnaryOp .Not a pos) (dNot dt) := PT.imp (pt_not ha) fun σ H Q ⟨B, F, env, ts, vs, R, q⟩ => ⟨B, F, env, ts, vs, R, (q.bind).mono (fun x e1 q1 => q1) fun _ _ _ _ z => z⟩
theorem gw_and1 (ha : GT X W a dt) : GW X W (.BoolOp .And [a] pos) dt := pw_and1 ha
theorem gw_or1 (ha : GT X W a dt) : GW X W (.BoolOp .Or [a] pos) dt := pw_or1 ha
theorem and_imp {tt tu : TT} {σ : St} {H : Hp} {Q : Bool → Hp → Prop} (h : rdT X.K X.mg W (dAnd dt du) σ H Q) : tAnd (rdT X.K X.mg W dt) (rdT X.K X.mg W du) σ H Q := by
  obtain ⟨B, F, env, ts, vs, R, q⟩ := h
  refine ⟨B, F, env, ts, vs, R, (q.bind).mono (fun x e1 q1 H1 F1 R1 => ?_) fun _ _ _ _ z => z⟩
  cases x with
  | true => rw [if_pos rfl] at q1 ⊢; exact ⟨B, F1, e1, ts, vs, R1, q1⟩
  | false => rw [if_neg Bool.false_ne_true] at q1 ⊢; exact q1 H1 F1 R1
theorem or_imp {tt tu : TT} {σ : St} {H : Hp} {Q : Bool → Hp → Prop} (h : rdT X.K X.mg W (dOr dt du) σ H Q) : tOr (rdT X.K X.mg W dt) (rdT X.K X.mg W du) σ H Q := by
  obtain ⟨B, F, env, ts, vs, R, q⟩ := h
  refine ⟨B, F, env, ts, vs, R, (q.bind).mono (fun x e1 q1 H1 F1 R1 => ?_) fun _ _ _ _ z => z⟩
  cases x with
  | true => rw [if_pos rfl] at q1 ⊢; exact q1 H1 F1 R1
  | false => rw [if_neg Bool.false_ne_true] at q1 ⊢; exact ⟨B, F1, e1, ts, vs, R1, q1⟩
theorem gw_and {rest : List Expr} (ha : GT X W a dt) (hb : GW X W (.BoolOp .And (b :: rest) pos) du) : GW X W (.BoolOp .And (a :: b :: rest) pos) (dAnd dt du) := PW.imp (pw_and ha hb) fun σ H Q h => and_imp (tt := fun _ _ _ => True) (tu := fun _ _ _ => True) h
theorem gw_or {rest : List Expr} (ha : GT X W a dt) (hb : GW X W (.BoolOp .Or (b :: rest) pos) du) : GW X W (.BoolOp .Or (a :: b :: rest) pos) (dOr dt du) := PW.imp (pw_or ha hb) fun σ H Q h => or_imp (tt := fun _ _ _ => True) (tu := fun _ _ _ => True) h
theorem gt_w (h : GW X W a dt) : GT X W a dt := h.pt
/-- bools as values -/
abbrev GB (X : Cx) (W : WX) (e : Expr) (den : Dn Bool) : Prop := GE X W e (dB den)
theorem gb_imp {σ : St} {H : Hp} {Q : VK} (h : rdE X.K X.mg W (dB dt) σ H Q) : rdT X.K X.mg W dt σ H (fun b H' => Q (.bl b) H') := by
  obtain ⟨B, F, env, ts, vs, R, q⟩ := h
  exact ⟨B, F, env, ts, vs, R, (q.bind).mono (fun x e1 q1 H1 F1 R1 => q1 (.bl x) H1 F1 (R1.push0 (Tm.of rp_bl))) fun _ _ _ _ z => z⟩
/-- an expression known to give a bool -/
theorem gb_val (h : GE X W a da) : GB X W a (dTest da) := by
  refine PE.imp h fun σ H Q ⟨B, F, env, ts, vs, R, q⟩ => ?_
  refine ⟨B, F, env, ts, vs, R, ((q.bind).bind).mono (fun x e1 q1 v H1 F1 R1 => ?_) fun _ _ _ _ z => z⟩
  obtain ⟨d, e, kk⟩ := ResP.lift q1
  have kk' : ∀ v H' F', RE X.K X.mg B σ H' F' e1 (ts ++ [.bl d]) (vs ++ [v]) → Q v H' := kk
  have hv := R1.bool e
  subst hv
  exact kk' (.bl d) H1 F1 ((R1.drop rfl).push0 (Tm.of rp_bl))
theorem pe_bool {dt : Dn Bool} (h : GB X W a dt) : PE X a (fun σ H Q => rdT X.K X.mg W dt σ H fun b H' => Q (.bl b) H') := PE.imp h fun σ H Q ⟨B, F, env, ts, vs, R, q⟩ => by
  refine ⟨B, F, env, ts, vs, R, ?_⟩
  unfold dB Dn.bind
  cases hq : dt env with
  | ok b e1 =>
    rw [hq] at q
    exact fun v H1 F1 R1 => by
      obtain ⟨S, rx⟩ := R1.last (d := .bl b) (fun z => nomatch z)
      have rx' : Rp X.K X.mg F1 H1 (.bl b) v S := rx
      unfold Rp at rx'
      rw [rx'.1]
      exact q H1 F1 (R1.drop rfl)
  | er c ns xs e1 => rw [hq] at q; exact q
  | no => rw [hq] at q; exact q.elim
theorem gb_one {op} (h : GB X W a dt) : GB X W (.BoolOp op [a] pos) dt := pe_one h
theorem gb_and {rest : List Expr} (ha : GB X W a dt) (hb : GB X W (.BoolOp .And (b :: rest) pos) du) : GB X W (.BoolOp .And (a :: b :: rest) pos) (dAnd dt du) := by
  refine PE.imp (pe_and (pe_bool ha) (pe_bool hb)) fun σ H Q h => ?_
  have h2 := and_imp (tt := fun _ _ _ => True) (tu := fun _ _ _ => True) (gb_imp h)
  obtain ⟨B, F, env, ts, vs, R, q⟩ := h2
  exact ⟨B, F, env, ts, vs, R, q.mono (fun x e1 q1 H1 F1 R1 => ⟨x, rfl, q1 H1 F1 R1⟩) fun _ _ _ _ z => z⟩
theorem gb_or {rest : List Expr} (ha : GB X W a dt) (hb : GB X W (.BoolOp .Or (b :: rest) pos) du) : GB X W (.BoolOp .Or (a :: b :: rest) pos) (dOr dt du) := by
  refine PE.imp (pe_or (pe_bool ha) (pe_bool hb)) fun σ H Q h => ?_
  have h2 := or_imp (tt := fun _ _ _ => True) (tu := fun _ _ _ => True) (gb_imp h)
  obtain ⟨B, F, env, ts, vs, R, q⟩ := h2
  exact ⟨B, F, env, ts, vs, R, q.mono (fun x e1 q1 H1 F1 R1 => ⟨x, rfl, q1 H1 F1 R1⟩) fun _ _ _ _ z => z⟩
theorem gb_not (ha : GB X W a dt) : GB X W (.UnaryOp .Not a pos) (dNot dt) := by
  refine PE.imp (pe_not (pe_bool ha)) fun σ H Q h => ?_
  obtain ⟨B, F, env, ts, vs, R, q⟩ := gb_imp h
  exact ⟨B, F, env, ts, vs, R, (q.bind).mono (fun x e1 q1 H1 F1 R1 => ⟨x, rfl, q1 H1 F1 R1⟩) fun _ _ _ _ z => z⟩
theorem ge_if (hc : GT X W c dt) (ha : GE X W a da) (hb : GE X W b db) : GE X W (.IfExp c a b pos) (dIf dt da db) := by
  refine PE.imp (pe_ifExp hc ha hb) fun σ H Q ⟨B, F, env, ts, vs, R, q⟩ => ?_
  refine ⟨B, F, env, ts, vs, R, (q.bind).mono (fun x e1 q1 H1 F1 R1 => ?_) fun _ _ _ _ z => z⟩
  cases x with
  | true => rw [if_pos rfl] at q1 ⊢; exact ⟨B, F1, e1, ts, vs, R1, q1⟩
  | false => rw [if_neg Bool.false_ne_true] at q1 ⊢; exact ⟨B, F1, e1, ts, vs, R1, q1⟩
/-! ### chains of two -/
theorem chain_imp {op op' : CmpOp} {r r' : R2} {f g : D → D → Option D} (hf : OpS X.K X.mg r f) (hg : OpS X.K X.mg r' g) (h1 : ∀ y, f .un y = none) (h2 : ∀ x, f x .un = none) (h3 : ∀ y, g .un y = none) (h4 : ∀ x, g x .un = none) {σ : St} {H : Hp} {Q : VK}
    (h : rdT X.K X.mg W (dChain f g da db dc) σ H (fun b H' => Q (.bl b) H')) : tChain r r' (rdE X.K X.mg W da) (rdE X.K X.mg W db) (rdE X.K X.mg W dc) σ H Q := by
  obtain ⟨B, F, env, ts, vs, R, q⟩ := h
  refine ⟨B, F, env, ts, vs, R, (q.bind).mono (fun x e1 q1 v H1 F1 R1 => ?_) fun _ _ _ _ z => z⟩
  refine ⟨B, F1, e1, ts ++ [x], vs ++ [v], R1, (q1.bind).mono (fun y e2 q2 u H2 F2 R2 => ?_) fun _ _ _ _ z => z.pop rfl⟩
  obtain ⟨k, e, q3⟩ := (ResP.bind q2).lift
  rw [List.append_assoc, List.append_assoc] at R2
  cases ef : f (rs e2 x) (rs e2 y) with
  | none => rw [ef] at e; cases e
  | some d =>
    rw [ef] at e
    obtain ⟨⟨Sx, rx⟩, Sy, ry⟩ := R2.last2 (fun z => by rw [z, h1] at ef; cases ef) (fun z => by rw [z, h2] at ef; cases ef)
    have hd : d = .bl k := by
      cases d with
      | bl c => cases e; rfl
      | _ => cases e
    subst hd
    refine hf B σ H2 F2 e2 (ts ++ [x, y]) (vs ++ [v, u]) _ _ v u Sx Sy (.bl k) _ R2 rx ry ef fun w H3 F3 R3 => ?_
    obtain ⟨S3, r3⟩ := R3.last (d := .bl k) (fun z => nomatch z)
    have r3' : Rp X.K X.mg F3 H3 (.bl k) w S3 := r3
    unfold Rp at r3'
    refine ⟨k, r3'.1, ?_⟩
    have R4 := R3.drop (us := [.bl k]) (ws := [w]) rfl
    cases k with
    | false =>
      rw [if_neg Bool.false_ne_true] at q3 ⊢
      exact q3 H3 F3 (R4.drop rfl)
    | true =>
      rw [if_pos rfl] at q3 ⊢
      refine ⟨B, F3, e2, ts ++ [x, y], vs ++ [v, u], R4, (ResP.bind q3).mono (fun z e3 q4 w4 H4 F4 R5 => ?_) fun _ _ _ _ z => z.pop rfl⟩
      obtain ⟨k2, ee, q5⟩ := q4.lift
      cases eg : g (rs e3 y) (rs e3 z) with
      | none => rw [eg] at ee; cases ee
      | some d2 =>
        rw [eg] at ee
        have R6 : RE X.K X.mg B σ H4 F4 e3 ((ts ++ [x]) ++ [y, z]) ((vs ++ [v]) ++ [u, w4]) := by
          have e5 : (ts ++ [x]) ++ [y, z] = (ts ++ [x, y]) ++ [z] := by simp
          have e6 : (vs ++ [v]) ++ [u, w4] = (vs ++ [v, u]) ++ [w4] := by simp
          rw [e5, e6]; exact R5
        obtain ⟨⟨Sy', ry'⟩, Sz, rz⟩ := R6.last2 (fun q => by rw [q, h3] at eg; cases eg) (fun q => by rw [q, h4] at eg; cases eg)
        have hd2 : d2 = .bl k2 := by
          cases d2 with
          | bl c => cases ee; rfl
          | _ => cases ee
        subst hd2
        have R7 : RE X.K X.mg B σ H4 F4 e3 ts vs := (R6.drop rfl).drop rfl
        refine hg B σ H4 F4 e3 ts vs _ _ u w4 Sy' Sz (.bl k2) _ R7 ry' rz eg fun w5 H5 F5 R8 => ?_
        obtain ⟨S8, r8⟩ := R8.last (d := .bl k2) (fun z => nomatch z)
        have r8' : Rp X.K X.mg F5 H5 (.bl k2) w5 S8 := r8
        unfold Rp at r8'
        rw [r8'.1]
        exact q5 H5 F5 (R8.drop rfl)
theorem gt_chain {op op' : CmpOp} {r r' : R2} {f g : D → D → Option D} (ho : OpR X (compareOp op) r) (hf : OpS X.K X.mg r f) (ho' : OpR X (compareOp op') r') (hg : OpS X.K X.mg r' g) (ha : GE X W a da) (hb : GE X W b db) (hc : GE X W c dc)
    (h1 : ∀ y, f .un y = none := by intro y; first | rfl | (cases y <;> rfl)) (h2 : ∀ x, f x .un = none := by intro x; first | rfl | (cases x <;> rfl)) (h3 : ∀ y, g .un y = none := by intro y; first | rfl | (cases y <;> rfl)) (h4 : ∀ x, g x .un = none := by intro x; first | rfl | (cases x <;> rfl)) (hm : lastMarks [op, op'] [b, c] = false := by with_unfolding_all rfl) :
    GT X W (.Compare a [op, op'] [b, c] pos) (dChain f g da db dc) := PT.imp (pt_chain ho ho' ha hb hc hm) fun σ H Q ⟨B, F, env, ts, vs, R, q⟩ =>
  chain_imp (op := op) (op' := op') hf hg h1 h2 h3 h4 (Q := fun x H' => ∃ k, x = .bl k ∧ Q k H') ⟨B, F, env, ts, vs, R, q.mono (fun b e1 q1 H1 F1 R1 => ⟨b, rfl, q1 H1 F1 R1⟩) fun _ _ _ _ z => z⟩
theorem gb_chain {op op' : CmpOp} {r r' : R2} {f g : D → D → Option D} (ho : OpR X (compareOp op) r) (hf : OpS X.K X.mg r f) (ho' : OpR X (compareOp op') r') (hg : OpS X.K X.mg r' g) (ha : GE X W a da) (hb : GE X W b db) (hc : GE X W c dc)
    (h1 : ∀ y, f .un y = none := by intro y; first | rfl | (cases y <;> rfl)) (h2 : ∀ x, f x .un = none := by intro x; first | rfl | (cases x <;> rfl)) (h3 : ∀ y, g .un y = none := by intro y; first | rfl | (cases y <;> rfl)) (h4 : ∀ x, g x .un = none := by intro x; first | rfl | (cases x <;> rfl)) (hm : lastMarks [op, op'] [b, c] = false := by with_unfolding_all rfl) :
    GB X W (.Compare a [op, op'] [b, c] pos) (dChain f g da db dc) := PE.imp (pe_chain ho ho' ha hb hc hm) fun σ H Q h => chain_imp (op := op) (op' := op') hf hg h1 h2 h3 h4 (gb_imp h)

/-! ### calls by values -/
theorem all_rp {K : PySem.W.Frag} {mg : Str → Option Value} {B : Bd} {σ : St} {F H : Hp} {env : List D} : ∀ {us : List D} {ws : List V} {ts : List D} {vs : List V}, us.length = ws.length → RE K mg B σ H F env (ts ++ us) (vs ++ ws) → (us.map (rs env)).any isUn = false → AllRp K mg F H (us.map (rs env)) ws
  | [], [], _, _, _, _, _ => by unfold AllRp; rfl
  | d :: us, w :: ws, ts, vs, hl, R, h => by
    rw [List.map_cons, List.any_cons, Bool.or_eq_false_iff] at h
    have R' : RE K mg B σ H F env ((ts ++ [d]) ++ us) ((vs ++ [w]) ++ ws) := by
      rw [List.append_assoc, List.append_assoc]
      exact R
    have hl' : us.length = ws.length := by simpa using hl
    unfold AllRp
    exact ⟨w, ws, rfl, (R'.drop hl').last (isUn_of h.1), all_rp hl' R' h.2⟩
  | [], _ :: _, _, _, h, _, _ => by cases h
  | _ :: _, [], _, _, h, _, _ => by cases h
theorem ge_callB {x : Str} {id : String} {r : List V → Hp → VK → Prop} {f : List D → Option D} (hc : CallR X (.builtin id) r) (hf : CaS X.K X.mg r f) (hm : X.mg x = none) (hv : bootBuiltins x = some (.builtin id)) (ha : GA X W (e :: es) dr) (hg : Gl X x := by rfl) (hn : x ≠ "__name__" := by decide) (hdb : (x == ("__debug__" : Str)) = false := by decide)
    (he : starEach (e :: es) X.env = (false, eval e X.env) :: starEach es X.env := by rfl) (hpl : (backTo pos (starEach es X.env)).any (·.1) = false := by rfl) : GE X W (.Call (.Name x p) (e :: es) [] pos) (dCall f dr) := by
  refine PE.imp (pe_callB hc hg hm hv ha hn hdb he hpl) fun σ H Q ⟨B, F, env, ts, vs, R, q⟩ => ?_
  refine ⟨B, F, env, ts, vs, R, (q.bind).mono (fun xs e1 h1 ws H1 F1 hl R1 => ?_) fun _ _ _ _ z => z⟩
  cases hu : (xs.map (rs e1)).any isUn with
  | true => rw [hu, if_pos rfl] at h1; exact h1.elim
  | false =>
    rw [hu, if_neg Bool.false_ne_true] at h1
    obtain ⟨d, e, k⟩ := h1.lift
    exact hf B σ H1 F1 e1 ts vs _ ws d Q (R1.drop hl) (all_rp hl R1 hu) e k
theorem ge_callTy {x : Str} {T : String} {r : List V → Hp → VK → Prop} {f : List D → Option D} (hc : CallR X (.type T) r) (hf : CaS X.K X.mg r f) (hm : X.mg x = none) (hv : bootBuiltins x = some (.type T)) (ha : GA X W (e :: es) dr) (hg : Gl X x := by rfl) (hn : x ≠ "__name__" := by decide) (hdb : (x == ("__debug__" : Str)) = false := by decide)
    (he : starEach (e :: es) X.env = (false, eval e X.env) :: starEach es X.env := by rfl) (hpl : (backTo pos (starEach es X.env)).any (·.1) = false := by rfl) : GE X W (.Call (.Name x p) (e :: es) [] pos) (dCall f dr) := by
  refine PE.imp (pe_callTy hc hg hm hv ha hn hdb he hpl) fun σ H Q ⟨B, F, env, ts, vs, R, q⟩ => ?_
  refine ⟨B, F, env, ts, vs, R, (q.bind).mono (fun xs e1 h1 ws H1 F1 hl R1 => ?_) fun _ _ _ _ z => z⟩
  cases hu : (xs.map (rs e1)).any isUn with
  | true => rw [hu, if_pos rfl] at h1; exact h1.elim
  | false =>
    rw [hu, if_neg Bool.false_ne_true] at h1
    obtain ⟨d, e, k⟩ := h1.lift
    exact hf B σ H1 F1 e1 ts vs _ ws d Q (R1.drop hl) (all_rp hl R1 hu) e k
/-- a subscript by values -/
theorem ge_ix {r : R2} {f : D → D → Option D} (hr : IxR X r) (hf : OpS X.K X.mg r f) (ha : GE X W a da) (hb : GE X W b db) (hs : PlainIx b := by exact fun _ _ => rfl)
    (h1 : ∀ y, f .un y = none := by intro y; first | rfl | (cases y <;> rfl)) (h2 : ∀ x, f x .un = none := by intro x; first | rfl | (cases x <;> rfl)) : GE X W (.Subscript a b pos) (dOp f da db) :=
  PE.imp (pe_ix hr ha hb hs) fun σ H Q h => op_imp (t := fun _ _ _ => True) hf h1 h2 h
end
end DL
set_option Elab.async false
set_option linter.all false
set_option maxRecDepth 100000
set_option maxHeartbeats 2000000
/-! DLd: statements, loops, the call of a def. -/
namespace DL
open PySem L2

inductive Out where
  | nx (env : List D)
  | rt (d : D) (env : List D)
  | bk (env : List D)
  | ct (env : List D)
  | er (c : Str) (ns : List Str) (xs : List D) (env : List D)
  | no
abbrev Sn := List D → Out

section
variable (K : PySem.W.Frag) (mg : Str → Option Value) (W : WX)
/-- ts, vs: what loops around hold -/
def OutP (B : Bd) (ts : List D) (vs : List V) (T : Ends) (r : Out) : Prop := match r with
  | .nx e => ∀ σ' H' F', RE K mg B σ' H' F' e ts vs → T.nx σ' H'
  | .rt d e => isSl d = false ∧ ∀ v σ' H' F', RE K mg B σ' H' F' e (ts ++ [d]) (vs ++ [v]) → T.rt v H'
  | .bk e => ∀ σ' H' F', RE K mg B σ' H' F' e ts vs → T.bk σ' H'
  | .ct e => ∀ σ' H' F', RE K mg B σ' H' F' e ts vs → T.ct σ' H'
  | .er c ns xs e => ∀ cls dx σ' H' F', RE K mg B σ' H' F' e ts vs → ErrIs K mg F' H' c ns xs cls dx → W cls dx σ' H'
  | .no => False
/-- P: the slots that are never stored (parameters) -/
def rdS (P : List Nat) (den : Sn) : TS := fun T σ H => ∃ B F env ts vs, B.pins.map (·.1) = P ∧ noAl ts ∧ RE K mg B σ H F env ts vs ∧ OutP K mg W B ts vs T (den env)
end
abbrev GS (X : Cx) (W : WX) (P : List Nat) (st : Stmt) (den : Sn) : Prop := PS X st (rdS X.K X.mg W P den)
abbrev GSs (X : Cx) (W : WX) (P : List Nat) (st : List Stmt) (den : Sn) : Prop := PSs X st (rdS X.K X.mg W P den)
theorem PS.imp {X : Cx} {e : Stmt} {t t' : TS} (h : PS X e t) (k : ∀ T σ H, t' T σ H → t T σ H) : PS X e t' := ⟨fun pins s σ H T I q => h.run pins s σ H T I (k T σ H q)⟩
theorem PSs.imp {X : Cx} {e : List Stmt} {t t' : TS} (h : PSs X e t) (k : ∀ T σ H, t' T σ H → t T σ H) : PSs X e t' := ⟨fun pins s σ H T I q => h.run pins s σ H T I (k T σ H q)⟩

/-! ### denotations -/
@[simp] def Res.out {α : Type} (r : Res α) (f : α → Sn) : Out := match r with
  | .ok a e => f a e
  | .er c ns xs e => .er c ns xs e
  | .no => .no
@[simp] def Out.seq (r : Out) (f : Sn) : Out := match r with
  | .nx e => f e
  | r => r
@[simp] def nSkip : Sn := fun env => .nx env
@[simp] def nSeq (a b : Sn) : Sn := fun env => (a env).seq b
@[simp] def nAsg (i : Nat) (a : Dn D) : Sn := fun env => (dU a env).out fun d e => .nx (e.set i d)
@[simp] def nDrop (a : Dn D) : Sn := fun env => (a env).out fun _ e => .nx e
/-- what is returned is handed on: an alias with all that it owns -/
def retD : D → Sn := fun d e => match d with
  | .sl i => if isUn (e.getD i .un) || isSl (e.getD i .un) then .no else .rt (e.getD i .un) (e.set i .un)
  | d => .rt d e
@[simp] def nRet (a : Dn D) : Sn := fun env => (a env).out retD
@[simp] def nRetN : Sn := fun env => .rt .non env
@[simp] def nIf (c : Dn Bool) (a b : Sn) : Sn := fun env => (c env).out fun k => if k then a else b
@[simp] def nBreak : Sn := fun env => .bk env
@[simp] def nCont : Sn := fun env => .ct env

section
variable {X : Cx} {W : WX} {P : List Nat} {e c : Expr} {st : Stmt} {rest p q : List Stmt} {pos pos' : Pos} {da : Dn D} {dt : Dn Bool} {a b : Sn}

theorem ResP.out {α : Type} {K : PySem.W.Frag} {mg : Str → Option Value} {B : Bd} {ts : List D} {vs : List V} {T : Ends} {r : Res α} {f : α → Sn} (h : OutP K mg W B ts vs T (r.out f)) {σ : St} : ResP r (fun a e => OutP K mg W B ts vs T (f a e)) (ErrK K mg W B σ ts vs) := by
  cases r with
  | ok a e => exact h
  | er c ns xs e => exact fun cls dx H' F' R q => h cls dx σ H' F' R q
  | no => exact h.elim
theorem gss_nil : GSs X W P [] nSkip := PSs.imp pss_nil fun T σ H ⟨B, F, env, ts, vs, _, na, R, q⟩ => q σ H F R
theorem gss_cons (h1 : GS X W P st a) (h2 : GSs X W P rest b) : GSs X W P (st :: rest) (nSeq a b) := by
  refine PSs.imp (pss_cons h1 h2) fun T σ H ⟨B, F, env, ts, vs, hp, na, R, q⟩ => ⟨B, F, env, ts, vs, hp, na, R, ?_⟩
  unfold nSeq at q
  cases e : a env with
  | nx e1 => rw [e] at q; exact fun σ' H' F' R' => ⟨B, F', e1, ts, vs, hp, na, R', q⟩
  | rt d e1 => rw [e] at q; exact q
  | bk e1 => rw [e] at q; exact q
  | ct e1 => rw [e] at q; exact q
  | er c ns xs e1 => rw [e] at q; exact q
  | no => rw [e] at q; exact q
theorem gss_one (h1 : GS X W P st a) : GSs X W P [st] a := PSs.imp (pss_one h1) fun T σ H h => h
theorem gs_pass : GS X W P (.Pass pos) nSkip := PS.imp ps_pass fun T σ H ⟨B, F, env, ts, vs, _, na, R, q⟩ => q σ H F R
theorem gs_break : GS X W P (.Break pos) nBreak := PS.imp ps_break fun T σ H ⟨B, F, env, ts, vs, _, na, R, q⟩ => q σ H F R
theorem gs_cont : GS X W P (.Continue pos) nCont := PS.imp ps_continue fun T σ H ⟨B, F, env, ts, vs, _, na, R, q⟩ => q σ H F R
theorem gs_drop (h : GE X W e da) (hs : swapsWith e none pos.line X.env = pure false := by rfl) : GS X W P (.Expr e pos) (nDrop da) := by
  refine PS.imp (ps_expr h hs) fun T σ H ⟨B, F, env, ts, vs, hp, na, R, q⟩ => ?_
  refine ⟨B, F, env, ts, vs, R, (ResP.out q).mono (fun d e1 h1 v H1 F1 R1 => ?_) fun _ _ _ _ z => z⟩
  exact h1 σ H1 F1 (R1.drop rfl)
theorem pin_ne {B : Bd} {i : Nat} (h : B.pins.map (·.1) = P) (hi : P.contains i = false) : ∀ p ∈ B.pins, p.1 ≠ i := fun p hp z => by
  have : i ∈ P := by rw [← h, ← z]; exact List.mem_map_of_mem hp
  rw [List.contains_iff_mem.mpr this] at hi
  cases hi
theorem gs_set (i : Nat) {x : Str} (h : GEU X W e (dU da)) (hN : X.N.Nodup) (hi : X.N[i]? = some x := by rfl) (hx : Loc X.env.scope x := by first | exact Or.inl rfl | exact Or.inr rfl) (hp : P.contains i = false := by rfl)
    (hs : swapsWith e (some (.Name x pos')) pos.line X.env = pure false := by rfl) (hf : X.fn x = true ∨ X.env.scope.names.lookup x = some .local := by first | exact .inl rfl | exact .inr rfl) :
    GS X W P (.Assign [.Name x pos'] e pos) (nAsg i da) := by
  refine PS.imp (ps_set hN hi hx h hs hf) fun T σ H ⟨B, F, env, ts, vs, hpp, na, R, q⟩ => ?_
  refine ⟨B, F, env, ts, vs, R, (ResP.out q).mono (fun d e1 h1 v H1 F1 hd R1 => ?_) fun _ _ _ _ z => z⟩
  exact h1 _ H1 F1 (R1.store (pin_ne hpp hp) hd na)
theorem gs_if (hc : GT X W c dt) (ha : GSs X W P p a) (hb : GSs X W P q b) : GS X W P (.If c p q pos) (nIf dt a b) := by
  refine PS.imp (ps_if hc ha hb) fun T σ H ⟨B, F, env, ts, vs, hpp, na, R, q⟩ => ?_
  refine ⟨B, F, env, ts, vs, R, (ResP.out q).mono (fun k e1 h1 H1 F1 R1 => ?_) fun _ _ _ _ z => z⟩
  cases k with
  | true => rw [if_pos rfl] at h1 ⊢; exact ⟨B, F1, e1, ts, vs, hpp, na, R1, h1⟩
  | false => rw [if_neg Bool.false_ne_true] at h1 ⊢; exact ⟨B, F1, e1, ts, vs, hpp, na, R1, h1⟩
theorem gs_ret (h : GE X W e da) : GS X W P (.Return (some e) pos) (nRet da) := by
  refine PS.imp (ps_ret h) fun T σ H ⟨B, F, env, ts, vs, hpp, na, R, q⟩ => ?_
  refine ⟨B, F, env, ts, vs, R, (ResP.out q).mono (fun d e1 h1 v H1 F1 R1 => ?_) fun _ _ _ _ z => z⟩
  cases d with
  | sl i =>
    unfold retD at h1
    dsimp only at h1
    cases hu : isUn (e1.getD i .un) with
    | true => rw [hu, Bool.true_or, if_pos rfl] at h1; exact h1.elim
    | false =>
      rw [hu, Bool.false_or] at h1
      cases hs : isSl (e1.getD i .un) with
      | true => rw [hs, if_pos rfl] at h1; exact h1.elim
      | false =>
      rw [hs, if_neg Bool.false_ne_true] at h1
      refine h1.2 v σ H1 F1 ?_
      obtain ⟨ow, r⟩ := R1
      have tl := r.tlen
      simp only [List.length_append, List.length_cons, List.length_nil] at tl
      have hl : ts.length = vs.length := by omega
      obtain ⟨hv, h0⟩ : σ[i]? = some (some v) ∧ _ := r.temp ts.length (.sl i) v (by simp) (by rw [hl]; simp)
      rw [List.getD_eq_getElem?_getD] at hu ⊢
      cases ee : e1[i]? with
      | none => rw [ee] at hu; cases hu
      | some x =>
        rw [ee] at hu
        simp only [Option.getD_some] at hu ⊢
        obtain ⟨v', ev, rp⟩ := r.slot i x ee (isUn_of hu)
        rw [hv] at ev
        cases ev
        have r1 := (r.drop (us := [.sl i]) (ws := [v]) rfl).unslot i
        have r2 := r1.push (d := x) (v := v) (S := ow (.s i)) (Tm.of rp) (fun a ha => ⟨fun o z => ?_, r.fno _ a ha, fun z => (r.fr a z).2.2.2 _ ha⟩) (r.nod _)
        · exact ⟨_, r2⟩
        · by_cases qq : o = .s i
          · subst qq; rw [offS_in] at z; exact absurd z List.not_mem_nil
          · rw [offS_ne qq] at z
            exact qq (r.uniq _ _ a (mem_low z) ha)
  | _ => exact h1.2 v σ H1 F1 R1
theorem gs_retN : GS X W P (.Return none pos) nRetN := PS.imp ps_retN fun T σ H ⟨B, F, env, ts, vs, _, na, R, q⟩ => q.2 .non σ H F (R.push0 (Tm.of rp_non))
end

/-! ### loops -/
def isFz (xs : List D) : Bool := frozL xs
/-- a for over what is known at its start: tg stores an item -/
def forD (tg : D → List D → Option (List D)) (body : Sn) : List D → Sn
  | [], env => .nx env
  | x :: xs, env => match tg x env with
    | none => .no
    | some e1 => match body e1 with
      | .nx e2 => forD tg body xs e2
      | .ct e2 => forD tg body xs e2
      | .bk e2 => .nx e2
      | r => r
/-- a while of at most n turns -/
def whileN (c : Dn Bool) (body : Sn) : Nat → Sn
  | 0, _ => .no
  | n + 1, env => (c env).out fun k => if k then fun e1 => match body e1 with
      | .nx e2 => whileN c body n e2
      | .ct e2 => whileN c body n e2
      | .bk e2 => .nx e2
      | r => r
    else .nx
open Classical in
noncomputable def whileD (c : Dn Bool) (body : Sn) : Sn := fun env => if h : ∃ n, whileN c body n env ≠ .no then whileN c body h.choose env else .no

section
variable {c : Dn Bool} {body : Sn}
theorem whileN_succ : ∀ {n : Nat} {env : List D}, whileN c body n env ≠ .no → whileN c body (n + 1) env = whileN c body n env
  | 0, env, h => absurd rfl h
  | n + 1, env, h => by
    unfold whileN at h ⊢
    cases q : c env with
    | er _ _ _ _ => rfl
    | no => rfl
    | ok k e1 =>
      rw [q] at h
      unfold Res.out at h ⊢
      try dsimp only at h ⊢
      cases k with
      | false => rfl
      | true =>
        rw [if_pos rfl] at h ⊢
        try rw [if_pos rfl]
        try dsimp only at h ⊢
        cases b : body e1 with
        | nx e2 => rw [b] at h; exact whileN_succ h
        | ct e2 => rw [b] at h; exact whileN_succ h
        | bk e2 => rfl
        | rt d e2 => rfl
        | er _ _ _ _ => rfl
        | no => rfl
theorem whileN_le {n m : Nat} {env : List D} (h : whileN c body n env ≠ .no) (hm : n ≤ m) : whileN c body m env = whileN c body n env := by
  induction m with
  | zero => rw [Nat.le_zero.mp hm]
  | succ m ih =>
    rcases Nat.lt_or_eq_of_le hm with l | e
    · have i := ih (Nat.le_of_lt_succ l)
      rw [whileN_succ (by rw [i]; exact h), i]
    · rw [e]
theorem whileD_eq {n : Nat} {env : List D} (h : whileN c body n env ≠ .no) : whileD c body env = whileN c body n env := by
  unfold whileD
  have hx : ∃ n, whileN c body n env ≠ .no := ⟨n, h⟩
  rw [dif_pos hx]
  rcases Nat.le_total n hx.choose with l | l
  · exact whileN_le h l
  · exact (whileN_le hx.choose_spec l).symm
/-- one turn -/
theorem whileD_step {env : List D} : whileD c body env = (c env).out fun k => if k then fun e1 => match body e1 with
      | .nx e2 => whileD c body e2
      | .ct e2 => whileD c body e2
      | .bk e2 => .nx e2
      | r => r
    else .nx := by
  have key : ∀ n, whileN c body (n + 1) env ≠ .no → whileD c body env = (c env).out fun k => if k then fun e1 => match body e1 with
      | .nx e2 => whileD c body e2
      | .ct e2 => whileD c body e2
      | .bk e2 => .nx e2
      | r => r
    else .nx := fun n h => by
    rw [whileD_eq h]
    unfold whileN at h ⊢
    cases q : c env with
    | er _ _ _ _ => rfl
    | no => rfl
    | ok k e1 =>
      rw [q] at h
      unfold Res.out at h ⊢
      try dsimp only at h ⊢
      cases k with
      | false => rfl
      | true =>
        rw [if_pos rfl] at h ⊢
        try rw [if_pos rfl]
        try dsimp only at h ⊢
        cases b : body e1 with
        | nx e2 => rw [b] at h; exact (whileD_eq h).symm
        | ct e2 => rw [b] at h; exact (whileD_eq h).symm
        | bk e2 => rfl
        | rt d e2 => rfl
        | er _ _ _ _ => rfl
        | no => rfl
  by_cases hx : ∃ n, whileN c body n env ≠ .no
  · obtain ⟨n, hn⟩ := hx
    cases n with
    | zero => exact absurd rfl hn
    | succ n => exact key n hn
  · have e0 : whileD c body env = .no := by unfold whileD; rw [dif_neg hx]
    rw [e0]
    -- every turn ends in no
    cases q : c env with
    | er c' ns xs e1 =>
      exfalso; apply hx
      exact ⟨1, by unfold whileN; rw [q]; intro z; cases z⟩
    | no => rfl
    | ok k e1 =>
      unfold Res.out
      dsimp only
      cases k with
      | false =>
        exfalso; apply hx
        exact ⟨1, by unfold whileN; rw [q]; intro z; cases z⟩
      | true =>
        rw [if_pos rfl]
        have go : ∀ e2, (∀ n, whileN c body n e2 ≠ .no → ∃ m, whileN c body m env ≠ .no) → whileD c body e2 = .no := fun e2 hh => by
          unfold whileD
          rw [dif_neg fun ⟨n, hn⟩ => hx (hh n hn)]
        cases b : body e1 with
        | nx e2 => exact (go e2 fun n hn => ⟨n + 1, by unfold whileN; rw [q]; unfold Res.out; dsimp only; rw [if_pos rfl, b]; exact hn⟩).symm
        | ct e2 => exact (go e2 fun n hn => ⟨n + 1, by unfold whileN; rw [q]; unfold Res.out; dsimp only; rw [if_pos rfl, b]; exact hn⟩).symm
        | bk e2 => exfalso; apply hx; exact ⟨1, by unfold whileN; rw [q]; unfold Res.out; dsimp only; rw [if_pos rfl, b]; intro z; cases z⟩
        | rt d e2 => exfalso; apply hx; exact ⟨1, by unfold whileN; rw [q]; unfold Res.out; dsimp only; rw [if_pos rfl, b]; intro z; cases z⟩
        | er _ _ _ _ => exfalso; apply hx; exact ⟨1, by unfold whileN; rw [q]; unfold Res.out; dsimp only; rw [if_pos rfl, b]; intro z; cases z⟩
        | no => rfl
end

section
variable {X : Cx} {W : WX} {P : List Nat} {e c tg iter : Expr} {body : List Stmt} {pos : Pos} {dt : Dn Bool} {b : Sn}
theorem gs_while (hp : PassesOwn (model X.prog X.w) X.A X.env X.xe) (hc : GT X W c dt) (hb : GSs X W P body b) : GS X W P (.While c body [] pos) (whileD dt b) := by
  refine PS.imp (ps_while hp hc hb) fun T σ H ⟨B, F, env, ts, vs, hpp, na, R, q⟩ => ?_
  by_cases hx : ∃ n, whileN dt b n env ≠ .no
  · obtain ⟨n, hn⟩ := hx
    rw [whileD_eq hn] at q
    refine ⟨fun m σ' H' => ∃ F' env', RE X.K X.mg B σ' H' F' env' ts vs ∧ OutP X.K X.mg W B ts vs T (whileN dt b m env'), ⟨n, F, env, R, q⟩, fun m σ1 H1 ⟨F1, e1, R1, q1⟩ => ?_⟩
    cases m with
    | zero => exact q1.elim
    | succ m =>
      unfold whileN at q1
      refine ⟨B, F1, e1, ts, vs, R1, (ResP.out q1).mono (fun k e2 h2 H2 F2 R2 => ?_) fun _ _ _ _ z => z⟩
      cases k with
      | false =>
        rw [if_neg Bool.false_ne_true] at h2 ⊢
        exact h2 σ1 H2 F2 R2
      | true =>
        rw [if_pos rfl] at h2 ⊢
        refine ⟨fun σ' H' => ∃ F' env', RE X.K X.mg B σ' H' F' env' ts vs ∧ OutP X.K X.mg W B ts vs T (whileN dt b m env'), fun σ' H' z => ⟨m, Nat.lt_succ_self m, z⟩, B, F2, e2, ts, vs, hpp, na, R2, ?_⟩
        try dsimp only at h2
        cases bb : b e2 with
        | nx e3 => rw [bb] at h2; exact fun σ' H' F' R' => ⟨F', e3, R', h2⟩
        | ct e3 => rw [bb] at h2; exact fun σ' H' F' R' => ⟨F', e3, R', h2⟩
        | bk e3 => rw [bb] at h2; exact h2
        | rt d e3 => rw [bb] at h2; exact h2
        | er _ _ _ _ => rw [bb] at h2; exact h2
        | no => rw [bb] at h2; exact h2.elim
  · have e0 : whileD dt b env = .no := by unfold whileD; rw [dif_neg hx]
    rw [e0] at q
    exact q.elim

/-- an iterator that gives the items, one by one, while us stand for ws -/
def ItOK (K : PySem.W.Frag) (mg : Str → Option Value) (J : It) (us : List D) (ws : List V) (items : List D) : Prop :=
  ∀ (B : Bd) (σ : St) (H F : Hp) (env ts ms : List D) (vs ns : List V) (k : Nat), ms.length = ns.length → RE K mg B σ H F env (ts ++ us ++ ms) (vs ++ ws ++ ns) →
    (∀ x, items[k]? = some x → J.go k H ∧ ∀ v H1, J.yld k H v H1 → ∃ F2, RE K mg B σ H1 F2 env (ts ++ us ++ ms ++ [x]) (vs ++ ws ++ ns ++ [v])) ∧ (items.length ≤ k → J.stop k H)
/-- .. while what Kp tells stands outside -/
def ItOKp (K : PySem.W.Frag) (mg : Str → Option Value) (Kp : List (Addr × HO)) (J : It) (us : List D) (ws : List V) (items : List D) : Prop :=
  ∀ (B : Bd) (σ : St) (H F : Hp) (env ts ms : List D) (vs ns : List V) (k : Nat), (∀ p ∈ Kp, B.out p.1 ∧ B.H0 p.1 = some p.2) → ms.length = ns.length → RE K mg B σ H F env (ts ++ us ++ ms) (vs ++ ws ++ ns) →
    (∀ x, items[k]? = some x → J.go k H ∧ ∀ v H1, J.yld k H v H1 → ∃ F2, RE K mg B σ H1 F2 env (ts ++ us ++ ms ++ [x]) (vs ++ ws ++ ns ++ [v])) ∧ (items.length ≤ k → J.stop k H)
def ItK (K : PySem.W.Frag) (mg : Str → Option Value) (H F : Hp) (J : It) (us : List D) (ws : List V) (items : List D) : Prop := ∃ Kp, (∀ p ∈ Kp, H p.1 = some p.2 ∧ F p.1 = some p.2) ∧ ItOKp K mg Kp J us ws items
theorem ItOK.k {K : PySem.W.Frag} {mg : Str → Option Value} {J : It} {us : List D} {ws : List V} {items : List D} {H F : Hp} (h : ItOK K mg J us ws items) : ItK K mg H F J us ws items := ⟨[], fun p hp => absurd hp List.not_mem_nil, fun B σ H F env ts ms vs ns k _ => h B σ H F env ts ms vs ns k⟩
section
variable {K : PySem.W.Frag} {mg : Str → Option Value} {B : Bd} {σ : St} {F H : Hp} {env ts : List D} {vs : List V}
open Classical in
/-- what stands frozen is told as what stands outside -/
noncomputable def keepB (B : Bd) (Kp : List (Addr × HO)) (H F : Hp) : Bd := { B with
  out := fun a => B.out a ∨ ∃ p ∈ Kp, p.1 = a
  H0 := fun a => if B.out a then B.H0 a else H a
  F0 := fun a => if B.out a then B.F0 a else F a }
open Classical in
theorem RE.keep (R : RE K mg B σ H F env ts vs) (Kp : List (Addr × HO)) (hK : ∀ p ∈ Kp, H p.1 = some p.2 ∧ F p.1 = some p.2) : RE K mg (keepB B Kp H F) σ H F env ts vs ∧ ∀ p ∈ Kp, (keepB B Kp H F).out p.1 ∧ (keepB B Kp H F).H0 p.1 = some p.2 := by
  obtain ⟨ow, r⟩ := R
  have e : ∀ p ∈ Kp, (keepB B Kp H F).H0 p.1 = some p.2 := fun p hp => by
    show (if B.out p.1 then B.H0 p.1 else H p.1) = _
    by_cases h : B.out p.1
    · rw [if_pos h, ← (r.fr _ h).1]; exact (hK p hp).1
    · rw [if_neg h]; exact (hK p hp).1
  refine ⟨⟨ow, { r with fr := fun a ha => ?_ }⟩, fun p hp => ⟨.inr ⟨p, hp, rfl⟩, e p hp⟩⟩
  by_cases h : B.out a
  · obtain ⟨h1, h2, h3, h4⟩ := r.fr a h
    refine ⟨?_, ?_, ?_, h4⟩
    · show H a = if B.out a then B.H0 a else H a
      rw [if_pos h]; exact h1
    · show F a = if B.out a then B.F0 a else F a
      rw [if_pos h]; exact h2
    · show (if B.out a then B.H0 a else H a) ≠ none
      rw [if_pos h]; exact h3
  · rcases ha with ha | ⟨p, hp, rfl⟩
    · exact absurd ha h
    · refine ⟨?_, ?_, ?_, fun o z => ?_⟩
      · show H p.1 = if B.out p.1 then B.H0 p.1 else H p.1
        rw [if_neg h]
      · show F p.1 = if B.out p.1 then B.F0 p.1 else F p.1
        rw [if_neg h]
      · rw [e p hp]; exact fun z => nomatch z
      · have q := (hK p hp).2
        rw [r.fno o _ z] at q
        cases q
open Classical in
theorem RE.unkeep {Kp : List (Addr × HO)} {H0 F0 : Hp} (R : RE K mg (keepB B Kp H0 F0) σ H F env ts vs) : RE K mg B σ H F env ts vs := by
  obtain ⟨ow, r⟩ := R
  refine ⟨ow, { r with fr := fun a ha => ?_ }⟩
  obtain ⟨h1, h2, h3, h4⟩ := r.fr a (.inl ha)
  have e1 : (keepB B Kp H0 F0).H0 a = B.H0 a := by
    show (if B.out a then B.H0 a else H0 a) = _
    rw [if_pos ha]
  have e2 : (keepB B Kp H0 F0).F0 a = B.F0 a := by
    show (if B.out a then B.F0 a else F0 a) = _
    rw [if_pos ha]
  rw [e1] at h1 h3
  rw [e2] at h2
  exact ⟨h1, h2, h3, h4⟩
theorem OutP.keep {W : WX} {T : Ends} {r : Out} {Kp : List (Addr × HO)} {H0 F0 : Hp} (h : OutP K mg W B ts vs T r) : OutP K mg W (keepB B Kp H0 F0) ts vs T r := by
  cases r with
  | nx e => exact fun σ' H' F' R => h σ' H' F' R.unkeep
  | rt d e => exact ⟨h.1, fun v σ' H' F' R => h.2 v σ' H' F' R.unkeep⟩
  | bk e => exact fun σ' H' F' R => h σ' H' F' R.unkeep
  | ct e => exact fun σ' H' F' R => h σ' H' F' R.unkeep
  | er c ns xs e => exact fun cls dx σ' H' F' R q => h cls dx σ' H' F' R.unkeep q
  | no => exact h
end
/-- what is walked: what must stand meanwhile, the items -/
def rdI (K : PySem.W.Frag) (mg : Str → Option Value) (W : WX) (den : Dn (List D × List D)) : TI := fun σ H R => ∃ B F env ts vs, RE K mg B σ H F env ts vs ∧
  ResP (den env) (fun xs e => ∀ J ws H' F', xs.1.length = ws.length → noAl xs.1 → noAl xs.2 → RE K mg B σ H' F' e (ts ++ xs.1) (vs ++ ws) → ItK K mg H' F' J xs.1 ws xs.2 → R J H') (ErrK K mg W B σ ts vs)
/-- the slots outside T are as they were -/
def SameS (T : List Nat) (σ σ' : St) : Prop := σ'.length = σ.length ∧ ∀ j, j ∉ T → σ'[j]? = σ[j]?
/-- a target, by trees; T: its slots -/
def rdG (K : PySem.W.Frag) (mg : Str → Option Value) (P T : List Nat) (tg : D → List D → Option (List D)) : TG := fun v σ H Q => ∃ B F env ts vs d e1, B.pins.map (·.1) = P ∧ noAl ts ∧ RE K mg B σ H F env (ts ++ [d]) (vs ++ [v]) ∧ (∀ i, d ≠ .sl i) ∧ tg d env = some e1 ∧ ∀ σ' H' F', SameS T σ σ' → RE K mg B σ' H' F' e1 ts vs → Q σ' H'
abbrev GI (X : Cx) (W : WX) (tg iter : Expr) (den : Dn (List D × List D)) : Prop := PI X tg iter (rdI X.K X.mg W den)
abbrev GG (X : Cx) (P T : List Nat) (tg : Expr) (g : D → List D → Option (List D)) : Prop := PG X tg (rdG X.K X.mg P T g)
theorem PI.imp {X : Cx} {tg iter : Expr} {t t' : TI} (h : PI X tg iter t) (k : ∀ σ H R, t' σ H R → t σ H R) : PI X tg iter t' := ⟨fun pins s σ H R I q => h.run pins s σ H R I (k σ H R q)⟩
theorem PG.imp {X : Cx} {tg : Expr} {t t' : TG} (h : PG X tg t) (k : ∀ v σ H Q, t' v σ H Q → t v σ H Q) : PG X tg t' := ⟨fun pins s σ H v u Q I r q => h.run pins s σ H v u Q I r (k v σ H Q q)⟩

@[simp] def nFor (it : Dn (List D × List D)) (tg : D → List D → Option (List D)) (body : Sn) : Sn := fun env => (it env).out fun xs => forD tg body xs.2
theorem gs_for {it : Dn (List D × List D)} {Tg : List Nat} {g : D → List D → Option (List D)} (hp : PassesOwn (model X.prog X.w) X.A X.env X.xe) (hc : X.calm = true) (hi : GI X W tg iter it) (hg : GG X P Tg tg g) (hb : GSs X W P body b)
    (hs : ∀ x, foldedSetIterable iter X.env x = pure x := by intro _; rfl) : GS X W P (.For tg iter body [] pos) (nFor it g b) := by
  refine PS.imp (ps_for hp hc hi hg hb hs) fun T σ H ⟨B, F, env, ts, vs, hpp, na, R, q⟩ => ?_
  refine ⟨B, F, env, ts, vs, R, (ResP.out q).mono (fun xs e1 h1 J ws H1 F1 hl n1 n2 R1 ⟨Kp, hK, IT⟩ => ?_) fun _ _ _ _ z => z⟩
  obtain ⟨R1, hk⟩ := R1.keep Kp hK
  replace h1 := OutP.keep (Kp := Kp) (H0 := H1) (F0 := F1) h1
  have hpp : (keepB B Kp H1 F1).pins.map (·.1) = P := hpp
  revert R1 hk h1 hpp
  generalize keepB B Kp H1 F1 = B
  intro R1 hk h1 hpp
  have nal : noAl (ts ++ xs.1) := fun d hd => (List.mem_append.mp hd).elim (na d) (n1 d)
  refine ⟨fun i m σ' H' => m = xs.2.length - i ∧ i ≤ xs.2.length ∧ ∃ F' env', RE X.K X.mg B σ' H' F' env' (ts ++ xs.1) (vs ++ ws) ∧ OutP X.K X.mg W B ts vs T (forD g b (xs.2.drop i) env'), ⟨_, rfl, Nat.zero_le _, F1, e1, R1, h1⟩, ?_⟩
  rintro i m σ2 H2 ⟨rfl, hi2, F2, e2, R2, q2⟩
  by_cases hlt : i < xs.2.length
  · right
    have hx : xs.2[i]? = some xs.2[i] := by simp [hlt]
    have R2' : RE X.K X.mg B σ2 H2 F2 e2 (ts ++ xs.1 ++ []) (vs ++ ws ++ []) := by rw [List.append_nil, List.append_nil]; exact R2
    obtain ⟨go, yl⟩ := (IT B σ2 H2 F2 e2 ts [] vs [] i hk rfl R2').1 _ hx
    rw [List.append_nil, List.append_nil] at yl
    rw [List.drop_eq_getElem_cons hlt] at q2
    unfold forD at q2
    refine ⟨go, fun σ' H' => i + 1 ≤ xs.2.length ∧ ∃ F' env', RE X.K X.mg B σ' H' F' env' (ts ++ xs.1) (vs ++ ws) ∧ OutP X.K X.mg W B ts vs T (forD g b (xs.2.drop (i + 1)) env'), fun σ' H' z => ⟨xs.2.length - (i + 1), by omega, rfl, z.1, z.2⟩, fun v H3 y => ?_⟩
    obtain ⟨F3, R3⟩ := yl v H3 y
    cases eg : g xs.2[i] e2 with
    | none => rw [eg] at q2; exact q2.elim
    | some e3 =>
      rw [eg] at q2
      dsimp only at q2
      refine ⟨B, F3, e2, ts ++ xs.1, vs ++ ws, xs.2[i], e3, hpp, nal, R3, n2 _ (List.getElem_mem hlt), eg, fun σ4 H4 F4 _ R4 => ?_⟩
      refine ⟨B, F4, e3, ts ++ xs.1, vs ++ ws, hpp, nal, R4, ?_⟩
      have dr : ∀ {σ' H' F' e'}, RE X.K X.mg B σ' H' F' e' (ts ++ xs.1) (vs ++ ws) → RE X.K X.mg B σ' H' F' e' ts vs := fun z => z.drop hl
      cases bb : b e3 with
      | nx e4 => rw [bb] at q2; exact fun σ' H' F' R' => ⟨hlt, F', e4, R', q2⟩
      | ct e4 => rw [bb] at q2; exact fun σ' H' F' R' => ⟨hlt, F', e4, R', q2⟩
      | bk e4 => rw [bb] at q2; exact fun σ' H' F' R' => q2 σ' H' F' (dr R')
      | rt d e4 =>
        rw [bb] at q2
        exact ⟨q2.1, fun v' σ' H' F' R' => q2.2 v' σ' H' F' (R'.dropMid hl fun j z => by have z2 := q2.1; rw [z] at z2; cases z2)⟩
      | er _ _ _ _ => rw [bb] at q2; exact fun cls dx σ' H' F' R' z => q2 cls dx σ' H' F' (dr R') z
      | no => rw [bb] at q2; exact q2.elim
  · left
    have hi3 : i = xs.2.length := by omega
    subst hi3
    rw [List.drop_length] at q2
    exact ⟨(IT B σ2 H2 F2 e2 ts [] vs [] _ hk rfl (by rw [List.append_nil, List.append_nil]; exact R2)).2 (Nat.le_refl _), q2 σ2 H2 F2 (R2.drop hl)⟩
end
end DL
set_option Elab.async false
set_option linter.all false
set_option maxRecDepth 100000
set_option maxHeartbeats 2000000
/-! DLr: the promise of a def where no repr is under way (FnG): the def, its call, the law's end; repr. -/
namespace DL
open PySem L2
open PyProof.Rows (envOfC IntsAre AllBare)

structure FnG (P : Program) (w : World) (K : PySem.W.Frag) (mg : Str → Option Value) (base : Heap) (C : CXT) (k : Nat) (fa : Addr) (fd : FuncData) (ps : List Str) (sp : Sp) : Prop where
  len : ∀ vs H Q E, sp vs H Q E → vs.length = ps.length
  run : ∀ (A : Around) (fr : List Env) (s : Shared) (H : Hp) (ar : Args) (us : List Value) (vs : List V) (Q : VK) (E : XK), Room k A → A.guards = some [] → Env0 P w K mg base A fr s H → BindsTo s fd ar (ps.zip us) → Vals vs us →
    sp vs H Q E → codeAny (model P w) A (.call (.ref fa) ar) (CR C fr P w H s Q E) s
section
variable {P : Program} {w : World} {K : PySem.W.Frag} {mg : Str → Option Value} {base : Heap} {C : CXT} {k : Nat} {fa : Addr} {fd : FuncData} {ps : List Str} {sp : Sp}
theorem FnG.of (F : FnOk P w K mg base C k fa fd ps sp) : FnG P w K mg base C k fa fd ps sp :=
  ⟨F.len, fun A fr s H ar us vs Q E hr _ e0 hb hv hs => F.run A fr s H ar us vs Q E hr e0 hb hv hs⟩
theorem FnG.mono {j : Nat} (F : FnG P w K mg base C j fa fd ps sp) (h : j ≤ k) : FnG P w K mg base C k fa fd ps sp :=
  ⟨F.len, fun A fr s H ar us vs Q E hr hg e0 hb hv hs => F.run A fr s H ar us vs Q E (hr.mono h) hg e0 hb hv hs⟩
/-- a def of the text, defaults or none -/
structure FunX (K : PySem.W.Frag) (x qual : Str) (st : Stmt) (f : Addr) (fd : FuncData) : Prop where
  ex : ∃ (oc : Value) (od : Option Addr) (dV kV doc pm : Value) (an : Option Addr) (cdv ct : Value) (osl : Array (Option Value)),
    fd = PySem.W.fnOf x qual (defArgs st) (defBody st) (defScope st) dV kV doc pm an cdv ct ∧ K.lookup f = some ⟨oc, od, .func fd, osl⟩ ∧ PySem.W.codeIn K cdv qual = true
theorem Fun.x {x qual : Str} {st : Stmt} {f : Addr} (F : Fun K x qual st f fd) : FunX K x qual st f fd := by
  obtain ⟨oc, od, kV, doc, pm, an, cdv, ct, osl, h1, h2, h3⟩ := F.ex
  exact ⟨oc, od, .none, kV, doc, pm, an, cdv, ct, osl, h1, h2, h3⟩
/-- a def of the text -/
theorem fnG_ofX {x qual : Str} {st : Stmt} {N : List Str} (F : FunX K x qual st fa fd) (S : FnScope N ps (defScope st)) (hlen : ∀ vs H Q E, sp vs H Q E → vs.length = ps.length)
    (hb : ∀ (cdv : Value) (A : Around) (fr : List Env) (s : Shared) (H : Hp) (vs : List V) (Q : VK) (E : XK), Room k (A.deeper (envOfC qual (defScope st) s.heap.objs.size fa cdv)) → A.guards = some [] → sp vs H Q E →
      ∃ t, PSs (cxOf C P w K mg base N qual (defScope st) fa cdv A fr s H E) (defBody st) t ∧ t ⟨fun _ H' => Q .non H', Q, fun _ _ => False, fun _ _ => False⟩ (start N vs) H) : FnG P w K mg base C (k + 1) fa fd ps sp := by
  obtain ⟨oc, od, dV, kV, doc, pm, an, cdv, ct, osl, rfl, lk, hcd⟩ := F.ex
  refine ⟨hlen, fun A fr s H ar us vs Q E hr hgd e0 bnd rel hw => ?_⟩
  have hl := hlen _ _ _ _ hw
  have kin : K.In s.heap := e0.mod.kin.keeps fun b o q => (e0.bs b o q).1
  have nol : s.heap.NoLimit := e0.mod.nolimit.keeps fun b o q => (e0.bs b o q).1
  have kinds : ∀ y ∈ ps.zip us, (defScope st).names.lookup y.1 = some .local ∨ ((defScope st).names.lookup y.1 = some .cell ∧ ((cellsFrom (s.heap.objs.size + 1) (defScope st).names []).lookup y.1).isSome = true) := by
    rintro ⟨n, v⟩ hy
    exact (S.par n (List.of_mem_zip hy).1).imp id fun q => ⟨q, PySem.W.cellsFrom_some _ _ _ (.inl q)⟩
  refine codeAny_call_function hr.depth (kin _ _ lk) rfl S.co S.gen rfl (PySem.W.codeRec_of kin hcd) (bnd _ _ _ _ ?_)
  refine wpAny_newFunctionEnv_cells S.kind kinds fun env he s1 ic => ?_
  subst he
  refine ⟨nol.keeps ic.toInCall.keep, codeAny_func ?_⟩
  obtain ⟨t, ht, hq⟩ := hb cdv A fr s H vs Q E (hr.deeper _) hgd hw
  have I0 : Inv (cxOf C P w K mg base N qual (defScope st) fa cdv A fr s H E) [] (start N vs) H s1 := inv_start S hr.hd e0 hl rel ic
  refine wpAny_mono (ht.run [] s1 (start N vs) H _ I0 hq) (fun fl s' hs => ?_) fun _ _ z => z
  have done : ∀ {σ' : L2.St} {H' : Hp} {v : V} {u : Value}, Inv (cxOf C P w K mg base N qual (defScope st) fa cdv A fr s H E) [] σ' H' s' → RelV v u → Q v H' → CE fr P w H s Q u s' := fun {σ' H' v u} J rv q => ⟨v, H', J.os, J.bare, J.base, J.hok, rv, q⟩
  cases fl with
  | ret u => obtain ⟨v, σ', H', J, rv, q⟩ := hs; exact done J rv q
  | next => obtain ⟨σ', H', J, q⟩ := hs; exact done (v := V.non) (u := Value.none) J rfl q
  | brk => obtain ⟨_, _, _, q⟩ := hs; exact q.elim
  | cont => obtain ⟨_, _, _, q⟩ := hs; exact q.elim
theorem fnG_of {x qual : Str} {st : Stmt} {N : List Str} (F : Fun K x qual st fa fd) (S : FnScope N ps (defScope st)) (hlen : ∀ vs H Q E, sp vs H Q E → vs.length = ps.length)
    (hb : ∀ (cdv : Value) (A : Around) (fr : List Env) (s : Shared) (H : Hp) (vs : List V) (Q : VK) (E : XK), Room k (A.deeper (envOfC qual (defScope st) s.heap.objs.size fa cdv)) → A.guards = some [] → sp vs H Q E →
      ∃ t, PSs (cxOf C P w K mg base N qual (defScope st) fa cdv A fr s H E) (defBody st) t ∧ t ⟨fun _ H' => Q .non H', Q, fun _ _ => False, fun _ _ => False⟩ (start N vs) H) : FnG P w K mg base C (k + 1) fa fd ps sp := fnG_ofX (Fun.x F) S hlen hb
end
section
variable {X : Cx} {C : CXT} {k : Nat} {fa : Addr} {fd : FuncData} {ps : List Str} {sp : Sp} {dvs : List V} {ds : List Value} {E : L2.St → XK} {x : Str} {p pos : Pos} {e : Expr} {es : List Expr} {t : TA}
theorem run_G {pins : List (Addr × Obj)} {σ : L2.St} {H : Hp} {s : Shared} {Q : VK} {us : List Value} {vs : List V} (F : FnG X.prog X.w X.K X.mg X.base C k fa fd ps sp) (hr : Room k X.A) (hgd : X.A.guards = some []) (hb : Binds X.K fd ps ds) (hd : Vals dvs ds)
    (hx : PassesAt C X σ (E σ)) (I : Inv X pins σ H s) (r : Vals vs us) (h : sp (vs ++ dvs) H Q (E σ)) : wpAny (model X.prog X.w) X.A (call (.ref fa) us) (EP X pins σ Q) X.xe s := by
  have rr : Vals (vs ++ dvs) (us ++ ds) := r.append hd
  have hl : (us ++ ds).length = ps.length := rr.length.symm.trans (F.len _ _ _ _ h)
  refine wpAny_call (codeAny_mono (F.run X.A X.stack s H ⟨us, []⟩ (us ++ ds) (vs ++ dvs) Q (E σ) hr hgd I.env0 (hb s us I.kIn hl) rr h) fun res s' hq => ?_)
  match res, hq with
  | .error e, hq => exact hx pins H s e s' I hq
  | .ok (.ret u), hq => exact I.after hq
  | .ok .next, hq => exact hq.elim
  | .ok .brk, hq => exact hq.elim
  | .ok .cont, hq => exact hq.elim
theorem pe_callG (F : FnG X.prog X.w X.K X.mg X.base C k fa fd ps sp) (hr : Room k X.A) (hgd : X.A.guards = some []) (hg : Gl X x) (hm : X.mg x = some (.ref fa)) (hk : PySem.W.keepIn X.K (.ref fa) = true) (hb : Binds X.K fd ps ds) (hd : Vals dvs ds) (hx : ∀ σ, PassesAt C X σ (E σ))
    (ha : PA X (e :: es) t) (hdb : (x == ("__debug__" : Str)) = false) (he : starEach (e :: es) X.env = (false, eval e X.env) :: starEach es X.env) (hpl : (backTo pos (starEach es X.env)).any (·.1) = false) :
    PE X (.Call (.Name x p) (e :: es) [] pos) (tCallSD sp dvs E t) := by
  refine ⟨fun pins s σ H Q I h => wpAny_Call_Name_kw (ld_glob I hg hm ?_ hdb)⟩
  refine PySem.W.callWith_K (h₀ := X.base) I.ok.mod.kin hk (thn (ha.run pos pins s σ H _ I h) fun us s1 hh => ?_) he hpl
  obtain ⟨vs, H1, I1, r, q⟩ := hh
  exact ⟨I1.kIn, run_G F hr hgd hb hd (hx σ) I1 r q⟩
end

/-! ### the law's end -/
theorem law_G {P : Program} {w : World} {K : PySem.W.Frag} {mg mb : Str → Option Value} {C : CXT} {k : Nat} {fa a : Addr} {fd : FuncData} {x : Str} {sp : Sp} {s₁ : Shared} {vs : List Value} {ns : List Int}
    (KX : K.In s₁.heap) (hns : s₁.heap.Ns mainGlobals mg) (hb : s₁.heap.Ns builtinsNs mb) (hbb : ∀ x : Str, x ≠ "__name__" → mb x = bootBuiltins x) (hlim : s₁.heap.NoLimit) (hg : s₁.gens = #[]) (ha : s₁.heap.get? a = some { cls := .type "list", data := .seq vs.toArray })
    (hi : IntsAre vs ns) (hl : ns.length ≤ sizeLine) (hr : Room k callerA) (F : ∀ base : Heap, K.In base → base.Ns mainGlobals mg → FnG P w K mg base C k fa fd [x] sp) (hbind : ∀ (s : Shared) (u : Value), BindsTo s fd ⟨[u], []⟩ [(x, u)])
    (hsp : ∀ H : Hp, Only H → SqL K H a (ns.map V.int) → sp [.ref a] H (fun v _ => v = .bl true) fun _ _ _ => False) (hC : ∀ H e s', C [] H s₁ (fun _ _ _ => False) e s' → False) :
    codeAny (model P w) callerA (.call (.ref fa) ⟨[.ref a], []⟩) (fun r s' => r = .ok (.ret (.bool true)) ∧ OldK s₁.heap s'.heap ∧ s'.os = s₁.os ∧ AllBare s'.gens) s₁ := by
  have rv := vals_ints hi
  have lenV := hi.length
  have main : ∀ H : Hp, Only H → SqL K H a (ns.map V.int) → HOk P w H s₁.heap → (∀ b, H b ≠ none → b = a) → (H a ≠ none → K.lookup a = none) →
      codeAny (model P w) callerA (.call (.ref fa) ⟨[.ref a], []⟩) (fun r s' => r = .ok (.ret (.bool true)) ∧ OldK s₁.heap s'.heap ∧ s'.os = s₁.os ∧ AllBare s'.gens) s₁ := fun H hO hS hok hA hK => by
    have isA : ∀ {b : Addr} {u : HO}, H b = some u → b = a := fun {b u} q => hA b fun z => by rw [q] at z; cases z
    have noD : ∀ {b : Addr} {o : Obj} {es : Array DictEntry} {ep : Nat}, s₁.heap.get? b = some o → o.data = .dict es ep → H b = none := fun {b o es ep} e d => by
      cases q : H b with
      | none => rfl
      | some u =>
        rw [isA q, ha] at e
        cases e
        exact nomatch (show Data.seq vs.toArray _ = Data.dict es ep from d)
    have toB : ∀ {b : Addr} {m : Str → Option Value}, s₁.heap.Ns b m → (hidT s₁.heap H).Ns b m := fun {b m} ⟨o, es, ep, e, d, r⟩ => ⟨o, es, ep, hidT_get e (noD e d), d, r⟩
    have kB : K.In (hidT s₁.heap H) := fun b o e => hidT_get (KX b o e) (by
      cases q : H b with
      | none => rfl
      | some u =>
        have e' := isA q
        subst e'
        have z := hK fun z => by rw [q] at z; cases z
        rw [z] at e
        cases e)
    obtain ⟨ml, l1, l2⟩ := hlim
    have md : Mod K mg (hidT s₁.heap H) := ⟨kB, toB hns, ⟨mb, toB hb, hbb⟩, ⟨ml, toB l1, l2⟩⟩
    have nofr : ∀ b ∈ frs [], H b = none := fun b z => absurd (show b ∈ ([] : List Addr) from z) List.not_mem_nil
    have e0 : Env0 P w K mg (hidT s₁.heap H) callerA [] s₁ H := ⟨rfl, md, fun b o q => of_hidT q, Nat.le_of_eq (hidT_size _ _), trivial, nofr, hok, .of_eq hg⟩
    refine codeAny_mono ((F _ kB (toB hns)).run callerA [] s₁ H ⟨[.ref a], []⟩ [.ref a] [.ref a] _ _ hr rfl e0 (hbind s₁ (.ref a)) (.cons rfl .nil) (hsp H hO hS)) fun r s' h => ?_
    match r, h with
    | .error e, h => exact (hC H e s' h).elim
    | .ok .next, h => exact h.elim
    | .ok .brk, h => exact h.elim
    | .ok .cont, h => exact h.elim
    | .ok (.ret u), h =>
      obtain ⟨v, H', os, bare, un, hok2, ru, q⟩ := h
      have q2 : v = .bl true := q
      subst q2
      have eu : u = Value.bool true := ru
      subst eu
      refine ⟨rfl, OldK.of_keep fun b o e => ?_, os, bare⟩
      cases q : H b with
      | none => exact un.keep b o e q (fun z => absurd (show b ∈ ([] : List Addr) from z) List.not_mem_nil) List.not_mem_nil
      | some u =>
        rcases hO b with z | ⟨ob, xs, z⟩
        · rw [q] at z; cases z
        · have y1 := (hok b _ z).1
          have y2 := (hok2 b _ (un.frzs b ob _ z)).1
          rw [e] at y1
          cases y1
          exact y2
  cases hk : K.lookup a with
  | some o =>
    have e := KX a o hk
    rw [ha] at e
    cases e
    have sq : SqL K (fun _ => none) a (ns.map V.int) := .inr ⟨_, vs.toArray, _, hk, rfl, rfl, rfl, by rw [List.size_toArray, lenV]; exact hl, by simpa using rv⟩
    exact main (fun _ => none) (fun _ => .inl rfl) sq (fun b u z => nomatch z) (fun b z => absurd rfl z) fun z => absurd rfl z
  | none =>
    have pick : ∀ b, (b = a ∧ (fun b => if b = a then some (HO.frz { cls := .type "list", data := .seq vs.toArray } (.lst (ns.map V.int))) else none) b = some (.frz { cls := .type "list", data := .seq vs.toArray } (.lst (ns.map V.int)))) ∨
        (b ≠ a ∧ (fun b => if b = a then some (HO.frz { cls := .type "list", data := .seq vs.toArray } (.lst (ns.map V.int))) else none) b = none) := fun b => by
      by_cases h : b = a
      · exact .inl ⟨h, if_pos h⟩
      · exact .inr ⟨h, if_neg h⟩
    refine main (fun b => if b = a then some (.frz { cls := .type "list", data := .seq vs.toArray } (.lst (ns.map V.int))) else none) (fun b => ?_) (.inl (.inr ⟨_, if_pos rfl⟩)) (fun b u z => ?_) (fun b z => ?_) fun _ => hk
    · rcases pick b with ⟨_, q⟩ | ⟨_, q⟩
      · exact .inr ⟨_, _, q⟩
      · exact .inl q
    · rcases pick b with ⟨rfl, q⟩ | ⟨_, q⟩
      · rw [q] at z
        cases z
        exact ⟨ha, by rw [List.length_map]; exact hl, vs, _, rv, ha⟩
      · rw [q] at z; cases z
    · rcases pick b with ⟨h, _⟩ | ⟨_, q⟩
      · exact h
      · exact absurd q z
theorem walk_G {l : PySem.W.OpenLaw} {n k : Nat} {q : Program} {loose : List Str} {XP : (Str → Option Value) → Heap → Prop} {YP : World → Heap → Prop} {d : DefRec} {K : Params → PySem.W.Frag} {C : World → CXT} {sp : World → (Str → Option Value) → Sp} {x : Str}
    (hn : l.most = some n) (hn2 : n ≤ sizeLine) (hdf : d.params.defaults = []) (hr : Room k callerA) (hY : ∀ (w : World) (h : Heap), YP w h → (K w.params).In h)
    (F : ∀ (w : World) (mg : Str → Option Value) (fa : Addr) (h : Heap), (K w.params).In h → h.Ns mainGlobals mg → mg d.name = some (.ref fa) → ∃ fd : FuncData, (∀ (s : Shared) (u : Value), BindsTo s fd ⟨[u], []⟩ [(x, u)]) ∧
        ∀ base : Heap, (K w.params).In base → base.Ns mainGlobals mg → FnG l.prog w (K w.params) mg base (C w) k fa fd [x] (sp w mg))
    (hsp : ∀ (w : World) (mg : Str → Option Value) (H : Hp) (a : Addr) (ns : List Int), ns.length ≤ n → Only H → SqL (K w.params) H a (ns.map V.int) → sp w mg [.ref a] H (fun v _ => v = .bl true) fun _ _ _ => False)
    (hC : ∀ (w : World) (H : Hp) (s : Shared) (e : Value) (s' : Shared), C w [] H s (fun _ _ _ => False) e s' → False) : PySem.W.WalkO q loose XP YP l.row.toRowW d [] (fun f vs => PySem.call f vs) := by
  refine Att.attach_call hn hdf fun w s0 s1 mg mb fa o pm cd doc a vs ns G Y ho hd hcd hmg hobj hints hlen hgen => ?_
  have kin := hY w _ Y
  obtain ⟨fd, hb, hF⟩ := F w mg fa _ kin G.T.g hmg
  exact law_G kin G.T.g G.T.b G.T.builtins G.T.nolimit hgen hobj hints (Nat.le_trans hlen hn2) hr hF hb (fun H hO hS => hsp w mg H a ns hlen hO hS) fun H e s' => hC w H s1 e s'
theorem cx_no {w : World} {P : Program} {H : Hp} {s : Shared} {e : Value} {s' : Shared} (h : L2.CX P w [] H s (fun _ _ _ => False) e s') : False := by
  obtain ⟨_, _, _, _, _, _, _, _, _, _, _, _, z⟩ := h
  exact z
end DL
set_option Elab.async false
set_option linter.all false
set_option maxRecDepth 100000
set_option maxHeartbeats 2000000
/-! DLe: the promise of a def by its denotation, its body, its call. -/
namespace DL
open PySem L2

inductive FR where
  | ok (d : D) (ps : List D)
  | er (c : Str) (ns : List Str) (xs : List D) (ps : List D)
  | no

section
variable (K : PySem.W.Frag) (mg : Str → Option Value)
/-- as RpL, but what is not known any more -/
def RpLu (F H : Hp) : List D → List V → List Addr → Prop
  | [], vs, S => vs = [] ∧ S = []
  | d :: ds, vs, S => ∃ v r S1 S2, vs = v :: r ∧ S = S1 ++ S2 ∧ ((d = .un ∧ S1 = []) ∨ Rp K mg F H d v S1) ∧ RpLu F H ds r S2
/-- behind a call -/
def PostC (F H : Hp) (S : List Addr) (F' H' : Hp) (ds : List D) (vs : List V) : Prop :=
  ∃ S', RpLu K mg F' H' ds vs S' ∧ S'.Nodup ∧ (∀ a ∈ S', F' a = none) ∧ Ex F' H' ∧ ∀ a, H a ≠ none → a ∉ S → H' a = H a ∧ F' a = F a ∧ a ∉ S'
def FRP (r : FR) (k : D → List D → Prop) (g : Str → List Str → List D → List D → Prop) : Prop := match r with
  | .ok d ps => isSl d = false ∧ isUn d = false ∧ k d ps
  | .er c ns xs ps => g c ns xs ps
  | .no => False
def spD (n : Nat) (fden : List D → FR) : Sp := fun vs H Q E => vs.length = n ∧ ∃ F ds S, RpL K mg F H ds vs S ∧ S.Nodup ∧ (∀ a ∈ S, F a = none) ∧ Ex F H ∧
  FRP (fden ds) (fun d ps => ∀ v H' F', PostC K mg F H S F' H' (d :: ps) (v :: vs) → Q v H') fun c ns xs ps => ∀ cls dx H' F', PostC K mg F H S F' H' ps vs → ErrIs K mg F' H' c ns xs cls dx → E cls dx H'
end
/-- the promise that a def answers as fden says -/
abbrev FnD (P : Program) (w : World) (K : PySem.W.Frag) (mg : Str → Option Value) (base : Heap) (k : Nat) (f : Addr) (fd : FuncData) (ps : List Str) (fden : List D → FR) : Prop :=
  FnG P w K mg base (L2.CX P w) k f fd ps (spD K mg ps.length fden)

/-! ### arguments taken, given back -/
def takeA : List D → List D → Option (List D × List D)
  | [], env => some ([], env)
  | d :: ds, env => match takeA ds env with
    | none => none
    | some (xs, e1) => match d with
      | .sl i => if isUn (e1.getD i .un) then none else some (e1.getD i .un :: xs, e1.set i .un)
      | d => some (d :: xs, e1)
def putA : List D → List D → List D → List D
  | d :: ds, p :: ps, env => putA ds ps (match d with
    | .sl i => if isUn p then env else env.set i p
    | _ => env)
  | _, _, env => env
def alIx : List D → List Nat
  | [] => []
  | d :: ds => match d with
    | .sl i => i :: alIx ds
    | _ => alIx ds

section
variable {K : PySem.W.Frag} {mg : Str → Option Value} {B : Bd} {σ : St} {F F' H H' : Hp} {ow : Own → List Addr}

theorem takeA_un : ∀ {ds env xs e1 : List D}, takeA ds env = some (xs, e1) → e1.length = env.length ∧ ds.length = xs.length ∧ (alIx ds).Nodup ∧ (∀ i ∈ alIx ds, e1.getD i .un = .un ∧ i < env.length) ∧ ∀ i, i ∉ alIx ds → e1[i]? = env[i]?
  | [], env, xs, e1, h => by
    unfold takeA at h
    cases h
    exact ⟨rfl, rfl, List.nodup_nil, fun i hi => absurd hi List.not_mem_nil, fun i _ => rfl⟩
  | d :: ds, env, xs, e1, h => by
    unfold takeA at h
    cases q : takeA ds env with
    | none => rw [q] at h; cases h
    | some p =>
      obtain ⟨ys, e2⟩ := p
      rw [q] at h
      obtain ⟨h1, h0, h2, h3, h4⟩ := takeA_un q
      cases d with
      | sl i =>
        dsimp only at h
        cases hu : isUn (e2.getD i .un) with
        | true => rw [hu, if_pos rfl] at h; cases h
        | false =>
          rw [hu, if_neg Bool.false_ne_true] at h
          cases h
          have ni : i ∉ alIx ds := fun z => by
            rw [(h3 i z).1] at hu
            cases hu
          have il : i < e2.length := by
            rcases Nat.lt_or_ge i e2.length with l | l
            · exact l
            · rw [List.getD_eq_getElem?_getD, List.getElem?_eq_none l] at hu
              cases hu
          refine ⟨by simp [h1], by simp [h0], List.nodup_cons.mpr ⟨ni, h2⟩, fun j hj => ?_, fun j hj => ?_⟩
          · rcases List.mem_cons.mp hj with z | z
            · subst z
              exact ⟨by rw [List.getD_eq_getElem?_getD, List.getElem?_set_self il]; rfl, by omega⟩
            · have jn : i ≠ j := fun z2 => ni (by rw [z2]; exact z)
              exact ⟨by rw [List.getD_eq_getElem?_getD, List.getElem?_set_ne jn, ← List.getD_eq_getElem?_getD]; exact (h3 j z).1, (h3 j z).2⟩
          · have jn : i ≠ j := fun z2 => hj (by rw [z2]; exact List.mem_cons_self)
            rw [List.getElem?_set_ne jn]
            exact h4 j fun z => hj (List.mem_cons_of_mem _ z)
      | _ => cases h; exact ⟨h1, by simp [h0], h2, h3, h4⟩

def TookA (K : PySem.W.Frag) (mg : Str → Option Value) (B : Bd) (σ : St) (H F : Hp) (e1 ts : List D) (vs : List V) (ow : Own → List Addr) (xs ds : List D) (ws : List V) : Prop :=
  ∃ ow' S, REw K mg B σ H F e1 ts vs ow' ∧ RpL K mg F H xs ws S ∧ S.Nodup ∧ (∀ a ∈ S, (∀ o, a ∉ ow' o) ∧ F a = none ∧ ¬ B.out a) ∧ (∀ o a, a ∈ ow' o → a ∈ ow o) ∧ (∀ a ∈ S, ∃ o, a ∈ ow o) ∧ ∀ (k i : Nat), ds[k]? = some (.sl i) → ∃ w, ws[k]? = some w ∧ σ[i]? = some (some w)
theorem REw.takeA : ∀ {ds : List D} {ws : List V} {env ts : List D} {vs : List V} {ow : Own → List Addr} {xs e1 : List D}, ds.length = ws.length → DL.takeA ds env = some (xs, e1) → REw K mg B σ H F env (ts ++ ds) (vs ++ ws) ow →
    TookA K mg B σ H F e1 ts vs ow xs ds ws
  | [], [], env, ts, vs, ow, xs, e1, _, h, R => by
    unfold DL.takeA at h
    cases h
    rw [List.append_nil, List.append_nil] at R
    exact ⟨ow, [], R, by unfold RpL; exact ⟨rfl, rfl⟩, List.nodup_nil, fun a ha => absurd ha List.not_mem_nil, fun _ _ z => z, fun a ha => absurd ha List.not_mem_nil, fun k i z => by simp at z⟩
  | d :: ds, w :: ws, env, ts, vs, ow, xs, e1, hl, h, R => by
    have R' : REw K mg B σ H F env ((ts ++ [d]) ++ ds) ((vs ++ [w]) ++ ws) ow := by
      rw [List.append_assoc, List.append_assoc]
      exact R
    have hl' : ds.length = ws.length := by simpa using hl
    unfold DL.takeA at h
    cases q : DL.takeA ds env with
    | none => rw [q] at h; cases h
    | some p =>
      obtain ⟨ys, e2⟩ := p
      rw [q] at h
      obtain ⟨ow1, S2, r1, rp2, nd2, hn2, sb1, in1, al1⟩ := REw.takeA hl' q R'
      have fin : ∀ {x : D} {e3 : List D} {ow2 : Own → List Addr} {S1 : List Addr}, REw K mg B σ H F e3 ts vs ow2 → Rp K mg F H x w S1 → S1.Nodup → (∀ a ∈ S1, (∀ o, a ∉ ow2 o) ∧ F a = none ∧ ¬ B.out a) → (∀ o a, a ∈ ow2 o → a ∈ ow1 o) → (∀ a ∈ S1, ∃ o, a ∈ ow1 o) →
          (∀ (k i : Nat), (d :: ds)[k]? = some (.sl i) → ∃ u, (w :: ws)[k]? = some u ∧ σ[i]? = some (some u)) → xs = x :: ys → e1 = e3 →
          TookA K mg B σ H F e1 ts vs ow xs (d :: ds) (w :: ws) := by
        intro x e3 ow2 S1 r2 rp1 nd1 hn1 sb2 in2 al ex ee
        subst ex ee
        refine ⟨ow2, S1 ++ S2, r2, by unfold RpL; exact ⟨w, ws, S1, S2, rfl, rfl, rp1, rp2⟩, List.nodup_append.mpr ⟨nd1, nd2, fun a ha b hb z => ?_⟩, fun a ha => ?_, fun o a z => sb1 o a (sb2 o a z), fun a ha => ?_, al⟩
        · subst z
          obtain ⟨o, ho⟩ := in2 a ha
          exact (hn2 a hb).1 o ho
        · rcases List.mem_append.mp ha with ha | ha
          · exact hn1 a ha
          · exact ⟨fun o z => (hn2 a ha).1 o (sb2 o a z), (hn2 a ha).2⟩
        · rcases List.mem_append.mp ha with ha | ha
          · obtain ⟨o, ho⟩ := in2 a ha
            exact ⟨o, sb1 o a ho⟩
          · exact in1 a ha
      have alc : (∀ i, d = .sl i → σ[i]? = some (some w)) → ∀ (k i : Nat), (d :: ds)[k]? = some (.sl i) → ∃ u, (w :: ws)[k]? = some u ∧ σ[i]? = some (some u) := fun h0 k i z => by
        cases k with
        | zero =>
          rw [List.getElem?_cons_zero] at z
          cases z
          exact ⟨w, rfl, h0 i rfl⟩
        | succ k => exact al1 k i z
      have nosl : (∀ i, d ≠ .sl i) → xs = d :: ys → e1 = e2 → TookA K mg B σ H F e1 ts vs ow xs (d :: ds) (w :: ws) := fun hd ex ee => by
        obtain ⟨ow2, S1, r2, rp1, nd1, hn1, _, sb2, in2⟩ := r1.take1 hd
        exact fin r2 rp1 nd1 hn1 sb2 in2 (alc fun i z => absurd z (hd i)) ex ee
      cases d with
      | sl i =>
        dsimp only at h
        cases hu : isUn (e2.getD i .un) with
        | true => rw [hu, if_pos rfl] at h; cases h
        | false =>
          rw [hu, if_neg Bool.false_ne_true] at h
          cases h
          have tl := r1.tlen
          simp only [List.length_append, List.length_cons, List.length_nil] at tl
          have hlt : ts.length = vs.length := by omega
          obtain ⟨hv, h0⟩ : σ[i]? = some (some w) ∧ _ := r1.temp ts.length (.sl i) w (by simp) (by rw [hlt]; simp)
          rw [List.getD_eq_getElem?_getD] at hu fin ⊢
          cases ee : e2[i]? with
          | none => rw [ee] at hu; cases hu
          | some x =>
            rw [ee] at hu fin
            simp only [Option.getD_some] at hu fin ⊢
            obtain ⟨v', ev, rp⟩ := r1.slot i x ee (isUn_of hu)
            rw [hv] at ev
            cases ev
            have r2 := (r1.drop (us := [.sl i]) (ws := [w]) rfl).unslot i
            have sub : ∀ o a, a ∈ offS (low ow1 ts.length) i [] o → a ∈ ow1 o ∧ o ≠ .s i := fun o a z => by
              by_cases qq : o = .s i
              · subst qq; rw [offS_in] at z; exact absurd z List.not_mem_nil
              · rw [offS_ne qq] at z; exact ⟨mem_low z, qq⟩
            refine fin r2 rp (r1.nod _) (fun a ha => ⟨fun o z => ?_, r1.fno _ a ha, fun z => (r1.fr a z).2.2.2 _ ha⟩) (fun o a z => (sub o a z).1) (fun a ha => ⟨_, ha⟩) (alc fun j z => by cases z; exact hv) rfl rfl
            exact (sub o a z).2 (r1.uniq _ _ a (sub o a z).1 ha)
      | _ => cases h; exact nosl (fun i z => by cases z) rfl rfl
  | [], _ :: _, _, _, _, _, _, _, h, _, _ => by cases h
  | _ :: _, [], _, _, _, _, _, _, h, _, _ => by cases h

theorem REw.putA : ∀ {ds ps : List D} {ws : List V} {env ts : List D} {vs : List V} {ow : Own → List Addr} {S : List Addr}, ds.length = ws.length → RpLu K mg F H ps ws S → REw K mg B σ H F env ts vs ow → S.Nodup → (∀ a ∈ S, (∀ o, a ∉ ow o) ∧ F a = none ∧ ¬ B.out a) → (alIx ds).Nodup → (∀ i ∈ alIx ds, ow (.s i) = [] ∧ i < env.length) →
    (∀ (k i : Nat), ds[k]? = some (.sl i) → ∃ w, ws[k]? = some w ∧ σ[i]? = some (some w)) → RE K mg B σ H F (DL.putA ds ps env) ts vs
  | [], ps, ws, env, ts, vs, ow, S, _, _, R, _, _, _, _, _ => by
    unfold DL.putA
    exact ⟨ow, R⟩
  | d :: ds, [], ws, env, ts, vs, ow, S, _, _, R, _, _, _, _, _ => by
    unfold DL.putA
    exact ⟨ow, R⟩
  | d :: ds, p :: ps, ws, env, ts, vs, ow, S, hl, h, R, nd, hn, na, h0, al => by
    unfold RpLu at h
    obtain ⟨w, r, S1, S2, rfl, rfl, hp, hr⟩ := h
    obtain ⟨nd1, nd2, dis⟩ := List.nodup_append.mp nd
    have hl' : ds.length = r.length := by simpa using hl
    have al' : ∀ (k i : Nat), ds[k]? = some (.sl i) → ∃ u, r[k]? = some u ∧ σ[i]? = some (some u) := fun k i z => al (k + 1) i z
    have skip : (alIx ds).Nodup → (∀ i ∈ alIx ds, ow (.s i) = [] ∧ i < env.length) → RE K mg B σ H F (DL.putA ds ps env) ts vs := fun n1 n2 => REw.putA hl' hr R nd2 (fun a ha => hn a (List.mem_append_right _ ha)) n1 n2 al'
    unfold DL.putA
    cases d with
    | sl i =>
      have e0 : alIx (.sl i :: ds) = i :: alIx ds := rfl
      rw [e0] at na h0
      obtain ⟨ni, na'⟩ := List.nodup_cons.mp na
      dsimp only
      cases hu : isUn p with
      | true => rw [if_pos rfl]; exact skip na' fun j hj => h0 j (List.mem_cons_of_mem _ hj)
      | false =>
        rw [if_neg Bool.false_ne_true]
        have hp' : Rp K mg F H p w S1 := hp.resolve_left fun z => by rw [z.1] at hu; cases hu
        obtain ⟨w', ew, hv⟩ := al 0 i rfl
        cases ew
        obtain ⟨oi, il⟩ := h0 i List.mem_cons_self
        have r1 := R.putS il oi hv hp' (fun a ha => hn a (List.mem_append_left _ ha)) nd1
        refine REw.putA hl' hr r1 nd2 (fun a ha => ⟨fun o z => ?_, (hn a (List.mem_append_right _ ha)).2⟩) na' (fun j hj => ?_) al'
        · by_cases qq : o = .s i
          · subst qq
            rw [offS_in] at z
            exact dis a z a ha rfl
          · rw [offS_ne qq] at z
            exact (hn a (List.mem_append_right _ ha)).1 o z
        · obtain ⟨oj, jl⟩ := h0 j (List.mem_cons_of_mem _ hj)
          rw [offS_ne (by intro z; cases z; exact ni hj)]
          exact ⟨oj, by simpa using jl⟩
    | _ => exact skip na h0
end

/-! ### the call -/
@[simp] def dFn (n : Nat) (fden : List D → FR) (dd : List D) (args : Dn (List D)) : Dn D := args.bind fun ds env => if ds.length + dd.length = n then match takeA ds env with
  | none => .no
  | some (xs, e1) => match fden (xs ++ dd) with
    | .ok d ps => if isSl d || isUn d then .no else .ok d (putA ds ps e1)
    | .er c ns ys ps => .er c ns ys (putA ds ps e1)
    | .no => .no
  else .no

section
variable {X : Cx} {W : WX} {k : Nat} {f C : Addr} {fd : FuncData} {ps : List Str} {fden : List D → FR} {dvs : List V} {dsv : List Value} {dd : List D} {x m : Str} {p pos apos : Pos} {e o : Expr} {es : List Expr} {da : Dn (List D)}

theorem RpL.append {K : PySem.W.Frag} {mg : Str → Option Value} {F H : Hp} : ∀ {xs ys : List D} {us ws : List V} {S T : List Addr}, RpL K mg F H xs us S → RpL K mg F H ys ws T → RpL K mg F H (xs ++ ys) (us ++ ws) (S ++ T)
  | [], ys, us, ws, S, T, h1, h2 => by
    unfold RpL at h1
    rw [h1.1, h1.2]
    exact h2
  | d :: xs, ys, us, ws, S, T, h1, h2 => by
    unfold RpL at h1
    obtain ⟨v, r, S1, S2, rfl, rfl, r1, r2⟩ := h1
    show RpL K mg F H (d :: (xs ++ ys)) (v :: (r ++ ws)) _
    unfold RpL
    exact ⟨v, r ++ ws, S1, S2 ++ T, rfl, List.append_assoc _ _ _, r1, RpL.append r2 h2⟩
theorem RpLu.front {K : PySem.W.Frag} {mg : Str → Option Value} {F H : Hp} : ∀ {ps : List D} {us ws : List V} {S : List Addr}, RpLu K mg F H ps (us ++ ws) S → ∃ S1 S2, S = S1 ++ S2 ∧ RpLu K mg F H (ps.take us.length) us S1
  | ps, [], ws, S, h => ⟨[], S, rfl, by rw [List.length_nil, List.take_zero]; unfold RpLu; exact ⟨rfl, rfl⟩⟩
  | [], u :: us, ws, S, h => by
    unfold RpLu at h
    cases h.1
  | p :: ps, u :: us, ws, S, h => by
    unfold RpLu at h
    obtain ⟨v, r, S1, S2, e, rfl, hp, hr⟩ := h
    cases e
    obtain ⟨T1, T2, rfl, q⟩ := hr.front
    refine ⟨S1 ++ T1, T2, (List.append_assoc _ _ _).symm, ?_⟩
    rw [List.length_cons, List.take_succ_cons]
    unfold RpLu
    exact ⟨u, us, S1, T1, rfl, rfl, hp, q⟩
theorem putA_take : ∀ {ds ps env : List D}, putA ds (ps.take ds.length) env = putA ds ps env
  | [], ps, env => by rw [List.length_nil, List.take_zero]; cases ps <;> rfl
  | d :: ds, [], env => by rw [List.take_nil]
  | d :: ds, p :: ps, env => by
    rw [List.length_cons, List.take_succ_cons]
    unfold putA
    exact putA_take

/-- behind a call, in the caller's state -/
theorem RE.back {B : Bd} {σ : St} {F H : Hp} {env ts ds xs e1 ddx : List D} {vs ws dvx : List V} {n : Nat} (R : RE X.K X.mg B σ H F env (ts ++ ds) (vs ++ ws)) (hl : ds.length = ws.length) (ht : takeA ds env = some (xs, e1)) (hdd : RpL X.K X.mg F H ddx dvx []) {Q : VK} {E : XK} (hn : (ws ++ dvx).length = n)
    (h : FRP (fden (xs ++ ddx)) (fun d ps => ∀ v H' F', RE X.K X.mg B σ H' F' (putA ds ps e1) (ts ++ [d]) (vs ++ [v]) → Q v H') fun c ns ys ps => ∀ cls dx H' F', RE X.K X.mg B σ H' F' (putA ds ps e1) ts vs → ErrIs X.K X.mg F' H' c ns ys cls dx → E cls dx H') :
    spD X.K X.mg n fden (ws ++ dvx) H Q E := by
  obtain ⟨ow, r⟩ := R
  obtain ⟨ow1, S, r1, rp, nd, hnn, sb, hin, al⟩ := r.takeA hl ht
  obtain ⟨l1, l2, na, un, _⟩ := takeA_un ht
  have o0 : ∀ i ∈ alIx ds, ow1 (.s i) = [] ∧ i < e1.length := fun i hi => by
    obtain ⟨u1, u2⟩ := un i hi
    have il : i < e1.length := by rw [l1]; exact u2
    refine ⟨r1.sun i (.inr ?_), il⟩
    rw [List.getD_eq_getElem?_getD, List.getElem?_eq_getElem il] at u1
    rw [List.getElem?_eq_getElem il]
    exact congrArg some u1
  refine ⟨hn, F, xs ++ ddx, S, ?_, nd, fun a ha => (hnn a ha).2.1, r.ex, ?_⟩
  · have z := rp.append hdd
    rw [List.append_nil] at z
    exact z
  -- the caller's state over the new heaps
  have grow : ∀ {F' H' : Hp} {S' : List Addr}, Ex F' H' → (∀ a, H a ≠ none → a ∉ S → H' a = H a ∧ F' a = F a ∧ a ∉ S') → REw X.K X.mg B σ H' F' e1 ts vs ow1 ∧ ∀ a ∈ S', (∀ o, a ∉ ow1 o) ∧ ¬ B.out a := fun {F' H' S'} ex fr => by
    have old : ∀ o a, a ∈ ow1 o → H' a = H a ∧ F' a = F a ∧ a ∉ S' := fun o a ha => fr a (r1.there o a ha) fun z => (hnn a z).1 o ha
    have oout : ∀ a, B.out a → H' a = H a ∧ F' a = F a ∧ a ∉ S' := fun a ha => fr a (by obtain ⟨q1, _, q3, _⟩ := r1.fr a ha; rw [q1]; exact q3) fun z => (hnn a z).2.2 ha
    refine ⟨r1.grow (fun a u hu => ?_) (fun o a ha => (old o a ha).1) (fun o a ha => (old o a ha).2.1.trans (r1.fno o a ha)) ex fun a ha => ⟨(oout a ha).1, (oout a ha).2.1⟩, fun a ha => ⟨fun o z => (old o a z).2.2 ha, fun z => (oout a z).2.2 ha⟩⟩
    have hh : H a ≠ none := by rw [r.ex a u hu]; intro z; cases z
    rw [(fr a hh fun z => by rw [(hnn a z).2.1] at hu; cases hu).2.1]
    exact hu
  unfold FRP at h ⊢
  cases q : fden (xs ++ ddx) with
  | no => rw [q] at h; exact h
  | er c ns ys ps =>
    rw [q] at h
    intro cls dx H' F' ⟨S', ru, nd', fn', ex', fr'⟩ ee
    obtain ⟨g, gn⟩ := grow ex' fr'
    obtain ⟨S1, S2, rfl, ru1⟩ := ru.front
    have z := REw.putA hl ru1 g (List.nodup_append.mp nd').1 (fun a ha => ⟨(gn a (List.mem_append_left _ ha)).1, fn' a (List.mem_append_left _ ha), (gn a (List.mem_append_left _ ha)).2⟩) na o0 al
    rw [← hl, putA_take] at z
    exact h cls dx H' F' z ee
  | ok d ps =>
    rw [q] at h
    refine ⟨h.1, h.2.1, fun v H' F' ⟨S', ru, nd', fn', ex', fr'⟩ => ?_⟩
    obtain ⟨g, gn⟩ := grow ex' fr'
    unfold RpLu at ru
    obtain ⟨v', rr, S1, S2, e, rfl, hd, ru2⟩ := ru
    cases e
    have hd' : Rp X.K X.mg F' H' d v S1 := hd.resolve_left fun z => by have z2 := h.2.1; rw [z.1] at z2; cases z2
    obtain ⟨T1, T2, rfl, ru1⟩ := ru2.front
    obtain ⟨n1, n2, dis⟩ := List.nodup_append.mp nd'
    obtain ⟨n3, n4, dis2⟩ := List.nodup_append.mp n2
    have g2 := g.push (Tm.of hd') (fun a ha => ⟨(gn a (List.mem_append_left _ ha)).1, fn' a (List.mem_append_left _ ha), (gn a (List.mem_append_left _ ha)).2⟩) n1
    have z := REw.putA hl ru1 g2 n3 (fun a ha => ⟨fun o z => ?_, fn' a (List.mem_append_right _ (List.mem_append_left _ ha)), (gn a (List.mem_append_right _ (List.mem_append_left _ ha))).2⟩) na o0 al
    · rw [← hl, putA_take] at z
      exact h.2.2 v H' F' z
    · cases o with
      | s i => exact (gn a (List.mem_append_right _ (List.mem_append_left _ ha))).1 _ z
      | t j =>
        unfold give at z
        dsimp only at z
        split at z
        · exact dis a z a (List.mem_append_left _ ha) rfl
        · exact (gn a (List.mem_append_right _ (List.mem_append_left _ ha))).1 _ z
end
end DL
set_option Elab.async false
set_option linter.all false
set_option maxRecDepth 100000
set_option maxHeartbeats 2000000
/-! DLf: a def keeps its promise; calls, targets, what is walked. -/
namespace DL
open PySem L2
open PyProof.Rows (envOfC)

/-- the parameters behind the body: P are those that it never stores -/
@[simp] def finA (P : List Nat) : Nat → List D → List D → List D
  | _, [], _ => []
  | k, d :: ds, e => (if P.contains k then e.headD .un else if froz d then d else .un) :: finA P (k + 1) ds e.tail
/-- a def's denotation by its body's: n parameters, m names -/
@[simp] def fdOf (P : List Nat) (m : Nat) (body : Sn) (ds : List D) : FR := match body (ds ++ List.replicate (m - ds.length) .un) with
  | .nx e => .ok .non (finA P 0 ds e)
  | .rt d e => if isUn d then .no else .ok d (finA P 0 ds e)
  | .er c ns xs e => .er c ns xs (finA P 0 ds e)
  | _ => .no

section
variable {K : PySem.W.Frag} {mg : Str → Option Value} {F F' H H' : Hp}

theorem fin_ok {P : List Nat} {σ : St} {ow : Own → List Addr} (e0 : Ex F F') (un : ∀ o o' a, a ∈ ow o → a ∈ ow o' → o = o') (nod : ∀ o, (ow o).Nodup) :
    ∀ {ds : List D} {vs : List V} {S : List Addr} {e : List D} {k : Nat}, RpL K mg F H ds vs S → (∀ (i : Nat) d, e[i]? = some d → d ≠ .un → ∃ v, σ[k + i]? = some (some v) ∧ Rp K mg F' H' d v (ow (.s (k + i)))) →
      (∀ (i : Nat) v, vs[i]? = some v → P.contains (k + i) = true → σ[k + i]? = some (some v)) →
      ∃ S', RpLu K mg F' H' (finA P k ds e) vs S' ∧ S'.Nodup ∧ ∀ a ∈ S', ∃ j, k ≤ j ∧ a ∈ ow (.s j)
  | [], vs, S, e, k, h, _, _ => by
    unfold RpL at h
    rw [h.1]
    exact ⟨[], by unfold finA RpLu; exact ⟨rfl, rfl⟩, List.nodup_nil, fun a ha => absurd ha List.not_mem_nil⟩
  | d :: ds, vs, S, e, k, h, hs, hp => by
    unfold RpL at h
    obtain ⟨v, r, S1, S2, rfl, rfl, h1, h2⟩ := h
    obtain ⟨T, q1, q2, q3⟩ := fin_ok e0 un nod (e := e.tail) (k := k + 1) h2 (fun i x hx hn => by
      have z := hs (i + 1) x (by rw [← List.getElem?_tail]; exact hx) hn
      rw [show k + (i + 1) = k + 1 + i by omega] at z
      exact z) (fun i v hv hc => by
      have z := hp (i + 1) v hv (by rw [show k + (i + 1) = k + 1 + i by omega]; exact hc)
      rw [show k + (i + 1) = k + 1 + i by omega] at z
      exact z)
    have fin : ∀ {x : D} {T1 : List Addr}, ((x = .un ∧ T1 = []) ∨ Rp K mg F' H' x v T1) → T1.Nodup → (∀ a ∈ T1, a ∈ ow (.s k)) → finA P k (d :: ds) e = x :: finA P (k + 1) ds e.tail →
        ∃ S', RpLu K mg F' H' (finA P k (d :: ds) e) (v :: r) S' ∧ S'.Nodup ∧ ∀ a ∈ S', ∃ j, k ≤ j ∧ a ∈ ow (.s j) := by
      intro x T1 hx nd ht ee
      rw [ee]
      refine ⟨T1 ++ T, by unfold RpLu; exact ⟨v, r, T1, T, rfl, rfl, hx, q1⟩, List.nodup_append.mpr ⟨nd, q2, fun a ha b hb z => ?_⟩, fun a ha => ?_⟩
      · subst z
        obtain ⟨j, hj, hm⟩ := q3 a hb
        have := un _ _ a (ht a ha) hm
        cases this
        omega
      · rcases List.mem_append.mp ha with ha | ha
        · exact ⟨k, Nat.le_refl _, ht a ha⟩
        · obtain ⟨j, hj, hm⟩ := q3 a ha
          exact ⟨j, by omega, hm⟩
    by_cases hk : P.contains k = true
    · have ee : finA P k (d :: ds) e = e.headD .un :: finA P (k + 1) ds e.tail := by
        show (if P.contains k then e.headD .un else _) :: _ = _
        rw [if_pos hk]
      cases e with
      | nil => exact fin (x := .un) (T1 := []) (.inl ⟨rfl, rfl⟩) List.nodup_nil (fun a ha => absurd ha List.not_mem_nil) ee
      | cons x e' =>
        by_cases hx : x = .un
        · exact fin (x := .un) (T1 := []) (.inl ⟨rfl, rfl⟩) List.nodup_nil (fun a ha => absurd ha List.not_mem_nil) (by rw [ee, ← hx]; rfl)
        · obtain ⟨v', ev, rp⟩ := hs 0 x rfl hx
          have e2 := hp 0 v rfl hk
          rw [Nat.add_zero] at ev e2 rp
          rw [e2] at ev
          cases ev
          exact fin (x := x) (.inr rp) (nod _) (fun a ha => ha) ee
    · by_cases hf : froz d = true
      · have ee : finA P k (d :: ds) e = d :: finA P (k + 1) ds e.tail := by
          show (if P.contains k then e.headD .un else if froz d then d else .un) :: _ = _
          rw [if_neg hk, if_pos hf]
        have z := h1.froz hf
        subst z
        exact fin (T1 := []) (.inr (h1.stay e0 fun a ha => absurd ha List.not_mem_nil)) List.nodup_nil (fun a ha => absurd ha List.not_mem_nil) ee
      · have ee : finA P k (d :: ds) e = .un :: finA P (k + 1) ds e.tail := by
          show (if P.contains k then e.headD .un else if froz d then d else .un) :: _ = _
          rw [if_neg hk, if_neg hf]
        exact fin (x := .un) (T1 := []) (.inl ⟨rfl, rfl⟩) List.nodup_nil (fun a ha => absurd ha List.not_mem_nil) ee

/-- the state at a body's start -/
theorem RE.start {N ps : List Str} {P : List Nat} {ds : List D} {vs : List V} {S : List Addr} (hl : vs.length = ps.length) (hN : ps.length ≤ N.length) (h : RpL K mg F H ds vs S) (nd : S.Nodup) (fn : ∀ a ∈ S, F a = none) (ex : Ex F H) (hP : ∀ i ∈ P, i < ps.length) :
    RE K mg ⟨fun a => H a ≠ none ∧ a ∉ S, H, F, P.map fun i => (i, vs.getD i .non)⟩ (start N vs) H F (ds ++ List.replicate (N.length - ds.length) .un) [] [] := by
  have el := h.len
  -- who owns what
  have key : ∀ {ds : List D} {vs : List V} {S : List Addr}, RpL K mg F H ds vs S → S.Nodup → ∃ g : Nat → List Addr, (∀ (i : Nat) d v, ds[i]? = some d → vs[i]? = some v → Rp K mg F H d v (g i)) ∧ (∀ i a, a ∈ g i → a ∈ S) ∧ (∀ i, ds.length ≤ i → g i = []) ∧ (∀ i j a, a ∈ g i → a ∈ g j → i = j) ∧ ∀ i, (g i).Nodup := by
    intro ds
    induction ds with
    | nil => intro vs S _ _; exact ⟨fun _ => [], fun i d v z => by simp at z, fun _ _ z => absurd z List.not_mem_nil, fun _ _ => rfl, fun _ _ _ z => absurd z List.not_mem_nil, fun _ => List.nodup_nil⟩
    | cons d ds ih =>
      intro vs S h nd
      unfold RpL at h
      obtain ⟨v, r, S1, S2, rfl, rfl, h1, h2⟩ := h
      obtain ⟨n1, n2, dis⟩ := List.nodup_append.mp nd
      obtain ⟨g, g1, g2, g3, g4, g5⟩ := ih h2 n2
      refine ⟨fun i => match i with | 0 => S1 | i + 1 => g i, fun i => ?_, fun i => ?_, fun i => ?_, fun i j => ?_, fun i => ?_⟩
      · cases i with
        | zero => intro x y e1 e2; cases e1; cases e2; exact h1
        | succ i => intro x y e1 e2; exact g1 i x y e1 e2
      · cases i with
        | zero => intro a ha; exact List.mem_append_left _ ha
        | succ i => intro a ha; exact List.mem_append_right _ (g2 i a ha)
      · cases i with
        | zero => intro z; simp at z
        | succ i => intro z; exact g3 i (by simpa using z)
      · cases i with
        | zero =>
          cases j with
          | zero => intro _ _ _; rfl
          | succ j => intro a ha hb; exact absurd rfl (dis a ha a (g2 j a hb))
        | succ i =>
          cases j with
          | zero => intro a ha hb; exact absurd rfl (dis a hb a (g2 i a ha))
          | succ j => intro a ha hb; rw [g4 i j a ha hb]
      · cases i with
        | zero => exact n1
        | succ i => exact g5 i
  obtain ⟨g, g1, g2, g3, g4, g5⟩ := key h nd
  refine ⟨fun o => match o with | .s i => g i | .t _ => [], ⟨?_, rfl, fun i d e1 e2 => ?_, fun i hi => ?_, fun k d v e1 => by simp at e1, fun _ _ => rfl, fun o o' a h1 h2 => ?_, fun o => ?_, fun o a ha => ?_, ex, fun a ha => ⟨rfl, rfl, ha.1, fun o z => ?_⟩, fun p hp => ?_⟩⟩
  · unfold L2.start
    simp only [List.length_append, List.length_replicate, List.length_map]
    omega
  · by_cases hi : i < ds.length
    · rw [List.getElem?_append_left hi] at e1
      have hv : i < vs.length := by omega
      refine ⟨vs[i], ?_, g1 i d vs[i] e1 (by simp [hv])⟩
      unfold L2.start
      rw [List.getElem?_append_left (by simp [hv]), List.getElem?_map]
      simp [hv]
    · exfalso
      rw [List.getElem?_append_right (by omega), List.getElem?_replicate] at e1
      split at e1
      · cases e1; exact e2 rfl
      · cases e1
  · by_cases hi2 : i < ds.length
    · exfalso
      rw [List.getElem?_append_left hi2] at hi
      rcases hi with z | z
      · have := List.getElem?_eq_none_iff.mp z
        omega
      · have r := g1 i .un (vs[i]'(by omega)) z (by simp)
        unfold Rp at r
        exact r
    · exact g3 i (by omega)
  · cases o with
    | s i =>
      cases o' with
      | s j => rw [g4 i j a h1 h2]
      | t k => exact absurd h2 List.not_mem_nil
    | t k => exact absurd h1 List.not_mem_nil
  · cases o with
    | s i => exact g5 i
    | t k => exact List.nodup_nil
  · cases o with
    | s i => exact fn a (g2 i a ha)
    | t k => exact absurd ha List.not_mem_nil
  · cases o with
    | s i => exact ha.2 (g2 i a z)
    | t k => exact absurd z List.not_mem_nil
  · obtain ⟨i, hi, rfl⟩ := List.mem_map.mp hp
    have hv : i < vs.length := by rw [hl]; exact hP i hi
    show (L2.start N vs)[i]? = some (some (vs.getD i .non))
    unfold L2.start
    rw [List.getElem?_append_left (by simp [hv]), List.getElem?_map, List.getD_eq_getElem?_getD]
    simp [hv]

variable {P : Program} {w : World} {base : Heap}
/-- THE RULE: a def answers as its body's denotation says -/
theorem fnD_ofX {x qual : Str} {st : Stmt} {f : Addr} {fd : FuncData} {N ps : List Str} {k : Nat} {Pn : List Nat} {body : Sn} (F : FunX K x qual st f fd) (S : FnScope N ps (defScope st)) (hP : ∀ i ∈ Pn, i < ps.length)
    (hb : ∀ (cdv : Value) (A : Around) (outer : List Env) (s : Shared) (H : Hp) (E : XK), Room k (A.deeper (envOfC qual (defScope st) s.heap.objs.size f cdv)) → A.guards = some [] →
      GSs (cxOf (L2.CX P w) P w K mg base N qual (defScope st) f cdv A outer s H E) (fun cls dx _ H' => E cls dx H') Pn (defBody st) body) :
    FnD P w K mg base (k + 1) f fd ps (fdOf Pn N.length body) := by
  have hN : ps.length ≤ N.length := by have := congrArg List.length S.pre; rw [List.length_take] at this; omega
  refine fnG_ofX F S (fun vs H Q E h => h.1) fun cdv A outer s H vs Q E hr hgd h => ⟨_, hb cdv A outer s H E hr hgd, ?_⟩
  obtain ⟨hl, F0, ds, S0, rp, nd, fn, ex, q⟩ := h
  have el := rp.len
  refine ⟨_, F0, _, [], [], ?_, fun d hd => absurd hd List.not_mem_nil, RE.start hl hN rp nd fn ex hP, ?_⟩
  · rw [List.map_map]
    exact List.map_id'' (fun _ => rfl) Pn
  -- the end
  have fin : ∀ {e : List D} {σ' : St} {H' F' : Hp} {ts : List D} {vs' : List V}, RE K mg ⟨fun a => H a ≠ none ∧ a ∉ S0, H, F0, Pn.map fun i => (i, vs.getD i .non)⟩ σ' H' F' e ts vs' → (∀ d ∈ ts, (isSl d = false)) → ts.length ≤ 1 → PostC K mg F0 H S0 F' H' (ts ++ finA Pn 0 ds e) (vs' ++ vs) := by
    intro e σ' H' F' ts vs' ⟨ow, r⟩ hs hl1
    have exF : Ex F0 F' := fun a o ho => by
      have h1 : H a ≠ none := by rw [ex a o ho]; intro z; cases z
      have h2 : a ∉ S0 := fun z => by rw [fn a z] at ho; cases ho
      rw [(r.fr a ⟨h1, h2⟩).2.1]
      exact ho
    obtain ⟨S', q1, q2, q3⟩ := fin_ok (k := 0) (e := e) (σ := σ') exF r.uniq r.nod rp (fun i d e1 e2 => by rw [Nat.zero_add]; exact r.slot i d e1 e2) (fun i v hv hc => by
      rw [Nat.zero_add] at hc ⊢
      have hm : i ∈ Pn := List.contains_iff_mem.mp hc
      have z := r.pin (i, vs.getD i .non) (List.mem_map.mpr ⟨i, hm, rfl⟩)
      rw [List.getD_eq_getElem?_getD, hv] at z
      exact z)
    have tl := r.tlen
    cases ts with
    | nil =>
      have e0 : vs' = [] := List.length_eq_zero_iff.mp tl.symm
      subst e0
      exact ⟨S', q1, q2, fun a ha => by obtain ⟨j, _, z⟩ := q3 a ha; exact r.fno _ a z, r.ex, fun a h1 h2 => ⟨(r.fr a ⟨h1, h2⟩).1, (r.fr a ⟨h1, h2⟩).2.1, fun z => by obtain ⟨j, _, zz⟩ := q3 a z; exact (r.fr a ⟨h1, h2⟩).2.2.2 _ zz⟩⟩
    | cons d ts2 =>
      have e2 : ts2 = [] := List.length_eq_zero_iff.mp (by rw [List.length_cons] at hl1; omega)
      subst e2
      cases vs' with
      | nil => cases tl
      | cons v vs2 =>
        have e3 : vs2 = [] := List.length_eq_zero_iff.mp (by simpa using tl.symm)
        subst e3
        have tm := r.temp 0 d v rfl rfl
        have hd : ∀ i, d ≠ .sl i := fun i z => by
          have := hs d List.mem_cons_self
          rw [z] at this; cases this
        refine ⟨ow (.t 0) ++ S', ?_, List.nodup_append.mpr ⟨r.nod _, q2, fun a ha b hb z => ?_⟩, fun a ha => ?_, r.ex, fun a h1 h2 => ⟨(r.fr a ⟨h1, h2⟩).1, (r.fr a ⟨h1, h2⟩).2.1, fun z => ?_⟩⟩
        · show RpLu K mg F' H' (d :: finA Pn 0 ds e) (v :: vs) _
          unfold RpLu
          exact ⟨v, vs, _, S', rfl, rfl, .inr (tm.rp hd), q1⟩
        · subst z
          obtain ⟨j, _, zz⟩ := q3 a hb
          have := r.uniq _ _ a ha zz
          cases this
        · rcases List.mem_append.mp ha with ha | ha
          · exact r.fno _ a ha
          · obtain ⟨j, _, z⟩ := q3 a ha
            exact r.fno _ a z
        · rcases List.mem_append.mp z with z | z
          · exact (r.fr a ⟨h1, h2⟩).2.2.2 _ z
          · obtain ⟨j, _, zz⟩ := q3 a z
            exact (r.fr a ⟨h1, h2⟩).2.2.2 _ zz
  unfold fdOf at q
  cases hq : body (ds ++ List.replicate (N.length - ds.length) .un) with
  | nx e =>
    rw [hq] at q
    intro σ' H' F' R'
    exact q.2.2 .non H' F' (fin (R'.push0 (d := .non) (v := .non) (Tm.of rp_non)) (fun d hd => by rcases List.mem_cons.mp hd with z | z; rw [z]; rfl; exact absurd z List.not_mem_nil) (Nat.le_refl 1))
  | rt d e =>
    rw [hq] at q
    dsimp only at q
    cases hu : isUn d with
    | true => rw [hu, if_pos rfl] at q; exact q.elim
    | false =>
      rw [hu, if_neg Bool.false_ne_true] at q
      refine ⟨q.1, fun v σ' H' F' R' => ?_⟩
      exact q.2.2 v H' F' (fin R' (fun x hx => by rcases List.mem_cons.mp hx with z | z; rw [z]; exact q.1; exact absurd z List.not_mem_nil) (Nat.le_refl 1))
  | er c ns xs e =>
    rw [hq] at q
    intro cls dx σ' H' F' R' ee
    exact q cls dx H' F' (fin R' (fun d hd => absurd hd List.not_mem_nil) (Nat.zero_le 1)) ee
  | bk e => rw [hq] at q; exact q.elim
  | ct e => rw [hq] at q; exact q.elim
  | no => rw [hq] at q; exact q.elim
theorem fnD_of {x qual : Str} {st : Stmt} {f : Addr} {fd : FuncData} {N ps : List Str} {k : Nat} {Pn : List Nat} {body : Sn} (F : Fun K x qual st f fd) (S : FnScope N ps (defScope st)) (hP : ∀ i ∈ Pn, i < ps.length)
    (hb : ∀ (cdv : Value) (A : Around) (outer : List Env) (s : Shared) (H : Hp) (E : XK), Room k (A.deeper (envOfC qual (defScope st) s.heap.objs.size f cdv)) → A.guards = some [] →
      GSs (cxOf (L2.CX P w) P w K mg base N qual (defScope st) f cdv A outer s H E) (fun cls dx _ H' => E cls dx H') Pn (defBody st) body) :
    FnD P w K mg base (k + 1) f fd ps (fdOf Pn N.length body) := fnD_ofX (Fun.x F) S hP hb
end

/-! ### calls -/
section
variable {X : Cx} {W : WX} {P : List Nat} {k : Nat} {f C : Addr} {fd : FuncData} {ps : List Str} {fden : List D → FR} {x m : Str} {p pos apos : Pos} {e o a : Expr} {es : List Expr} {da : Dn (List D)} {dn : Dn D}

theorem call_imp {dvs : List V} {dd : List D} {n : Nat} (hdd : ∀ F H, RpL X.K X.mg F H dd dvs []) {σ : St} {H : Hp} {Q : VK} (h : rdE X.K X.mg W (dFn n fden dd da) σ H Q) :
    rdA X.K X.mg W da σ H (fun ws H1 => spD X.K X.mg n fden (ws ++ dvs) H1 Q (WE W σ)) := by
  obtain ⟨B, F, env, ts, vs, R, q⟩ := h
  refine ⟨B, F, env, ts, vs, R, (ResP.bind q).mono (fun ds e1 q' ws H1 F1 hl R1 => ?_) fun _ _ _ _ z => z⟩
  by_cases hn : ds.length + dd.length = n
  · rw [if_pos hn] at q'
    cases ht : takeA ds e1 with
    | none => rw [ht] at q'; exact q'.elim
    | some pr =>
      obtain ⟨xs, e2⟩ := pr
      rw [ht] at q'
      dsimp only at q'
      refine R1.back hl ht (hdd _ _) (by rw [List.length_append, ← hl, ← (hdd F H).len]; exact hn) ?_
      unfold FRP
      cases hf : fden (xs ++ dd) with
      | no => rw [hf] at q'; exact q'.elim
      | er c ns ys ps => rw [hf] at q'; exact fun cls dx H' F' R2 ee => q' cls dx H' F' R2 ee
      | ok d ps =>
        rw [hf] at q'
        dsimp only at q'
        by_cases hz : (isSl d || isUn d) = true
        · rw [if_pos hz] at q'; exact q'.elim
        · rw [if_neg hz] at q'
          rw [Bool.not_eq_true, Bool.or_eq_false_iff] at hz
          exact ⟨hz.1, hz.2, q'⟩
  · rw [if_neg hn] at q'; exact q'.elim
theorem ge_call {dvs : List V} {dsv : List Value} {dd : List D} (tk : Takes X W) (hgd : X.A.guards = some []) (F : FnD X.prog X.w X.K X.mg X.base k f fd ps fden) (hr : Room k X.A) (hm : X.mg x = some (.ref f)) (hk : PySem.W.keepIn X.K (.ref f) = true) (hb : Binds X.K fd ps dsv) (hd : Vals dvs dsv) (hdd : ∀ F H, RpL X.K X.mg F H dd dvs [])
    (ha : GA X W (e :: es) da) (hg : Gl X x := by rfl) (hdb : (x == ("__debug__" : Str)) = false := by decide) (he : starEach (e :: es) X.env = (false, eval e X.env) :: starEach es X.env := by rfl) (hpl : (backTo pos (starEach es X.env)).any (·.1) = false := by rfl) :
    GE X W (.Call (.Name x p) (e :: es) [] pos) (dFn ps.length fden dd da) :=
  PE.imp (pe_callG (E := WE W) F hr hgd hg hm hk hb hd (fun σ => passAt tk σ) ha hdb he hpl) fun σ H Q h => call_imp hdd h
/-- no defaults -/
theorem ge_call' (tk : Takes X W) (hgd : X.A.guards = some []) (F : FnD X.prog X.w X.K X.mg X.base k f fd ps fden) (hr : Room k X.A) (hm : X.mg x = some (.ref f)) (hk : PySem.W.keepIn X.K (.ref f) = true) (hb : Binds X.K fd ps [])
    (ha : GA X W (e :: es) da) (hg : Gl X x := by rfl) (hdb : (x == ("__debug__" : Str)) = false := by decide) (he : starEach (e :: es) X.env = (false, eval e X.env) :: starEach es X.env := by rfl) (hpl : (backTo pos (starEach es X.env)).any (·.1) = false := by rfl) :
    GE X W (.Call (.Name x p) (e :: es) [] pos) (dFn ps.length fden [] da) :=
  ge_call tk hgd F hr hm hk hb .nil (fun _ _ => by unfold RpL; exact ⟨rfl, rfl⟩) ha hg hdb he hpl
/-- what never raises takes everything -/
theorem takes_no : Takes X (fun _ _ _ _ => False) := fun u s' ⟨_, _, _, _, _, _, _, _, _, _, _, _, _, _, _, _, w⟩ => w.elim

/-! ### targets -/
@[simp] def tgName (i : Nat) : D → List D → Option (List D) := fun d env => some (env.set i d)
theorem gg_name (i : Nat) {x : Str} (hN : X.N.Nodup) (hi : X.N[i]? = some x := by rfl) (hx : Loc X.env.scope x := by first | exact Or.inl rfl | exact Or.inr rfl) (hp : P.contains i = false := by rfl) (hf : X.fn x = true ∨ X.env.scope.names.lookup x = some .local := by first | exact .inl rfl | exact .inr rfl) : GG X P [i] (.Name x pos) (tgName i) :=
  PG.imp (pg_name hN hi hx hf) fun v σ H Q ⟨B, F, env, ts, vs, d, e1, hpp, na, R, hd, eg, q⟩ => by
    cases eg
    refine q _ H F ⟨by simp, fun j hj => ?_⟩ (R.store (pin_ne hpp hp) hd na)
    rw [List.getElem?_set_ne fun z => hj (by rw [z]; exact List.mem_cons_self)]
/-- several targets for several trees -/
@[simp] def tgAll : List (D → List D → Option (List D)) → List D → List D → Option (List D)
  | [], [], env => some env
  | g :: gs, d :: ds, env => (g d env).bind fun e1 => tgAll gs ds e1
  | _, _, _ => none
@[simp] def tgTup (gs : List (D → List D → Option (List D))) : D → List D → Option (List D) := fun d env => match d with
  | .tup xs => if frozL xs then tgAll gs xs env else none
  | _ => none
def rdGs (K : PySem.W.Frag) (mg : Str → Option Value) (P T : List Nat) (gs : List (D → List D → Option (List D))) : TGs := fun vs0 σ H Q => ∃ B F env ts vs ds e1, B.pins.map (·.1) = P ∧ noAl ts ∧ RE K mg B σ H F env (ts ++ ds) (vs ++ vs0) ∧ ds.length = vs0.length ∧ frozL ds = true ∧ tgAll gs ds env = some e1 ∧ ∀ σ' H' F', SameS T σ σ' → RE K mg B σ' H' F' e1 ts vs → Q σ' H'
abbrev GGs (X : Cx) (P T : List Nat) (tgs : List Expr) (gs : List (D → List D → Option (List D))) : Prop := PGs X tgs (rdGs X.K X.mg P T gs)
theorem PGs.imp {X : Cx} {tg : List Expr} {t t' : TGs} (h : PGs X tg t) (k : ∀ v σ H Q, t' v σ H Q → t v σ H Q) : PGs X tg t' := ⟨fun pins s σ H v u Q I r q => h.run pins s σ H v u Q I r (k v σ H Q q)⟩
theorem froz_sl {d : D} (h : froz d = true) : ∀ i, d ≠ .sl i := fun i z => by rw [z] at h; cases h
theorem frozL_mem : ∀ {ds : List D}, frozL ds = true → ∀ d ∈ ds, froz d = true
  | [], _, d, h => absurd h List.not_mem_nil
  | x :: xs, z, d, h => by
    unfold frozL at z
    rw [Bool.and_eq_true] at z
    rcases List.mem_cons.mp h with e | h
    · rw [e]; exact z.1
    · exact frozL_mem z.2 d h
theorem ggs_nil : GGs X P [] [] [] := PGs.imp pgs_nil fun v σ H Q ⟨B, F, env, ts, vs, ds, e1, hpp, na, R, hl, hf, eg, q⟩ => by
  cases ds with
  | nil =>
    have e0 : v = [] := List.length_eq_zero_iff.mp hl.symm
    subst e0
    cases eg
    rw [List.append_nil, List.append_nil] at R
    exact ⟨rfl, q σ H F ⟨rfl, fun _ _ => rfl⟩ R⟩
  | cons d ds => cases eg
theorem RE.swap {K : PySem.W.Frag} {mg : Str → Option Value} {B : Bd} {σ : St} {F H : Hp} {env ts us : List D} {vs ws : List V} {d : D} {v : V} (R : RE K mg B σ H F env (ts ++ d :: us) (vs ++ v :: ws)) (hl : us.length = ws.length) (h1 : froz d = true) (h2 : frozL us = true) : RE K mg B σ H F env (ts ++ us ++ [d]) (vs ++ ws ++ [v]) := by
  have R0 : RE K mg B σ H F env ((ts ++ [d]) ++ us) ((vs ++ [v]) ++ ws) := by rw [List.append_assoc, List.append_assoc]; exact R
  have R1 := R0.drop hl
  obtain ⟨S, rd⟩ := R1.last (d := d) (by rw [rs_ne (froz_sl h1)]; intro z; rw [z] at h1; cases h1)
  rw [rs_ne (froz_sl h1)] at rd
  have e0 := rd.froz h1
  subst e0
  have R2 := R1.drop (us := [d]) (ws := [v]) rfl
  -- the others one by one
  have go : ∀ {us : List D} {ws : List V} {ts ts2 : List D} {vs vs2 : List V}, us.length = ws.length → frozL us = true → RE K mg B σ H F env (ts ++ us) (vs ++ ws) → RE K mg B σ H F env ts2 vs2 → RE K mg B σ H F env (ts2 ++ us) (vs2 ++ ws) := by
    intro us
    induction us with
    | nil => intro ws ts ts2 vs vs2 h _ _ z; cases ws with
      | nil => rw [List.append_nil, List.append_nil]; exact z
      | cons _ _ => cases h
    | cons u us ih =>
      intro ws ts ts2 vs vs2 h hf ra rb
      cases ws with
      | nil => cases h
      | cons y ws =>
        unfold frozL at hf
        rw [Bool.and_eq_true] at hf
        have ra' : RE K mg B σ H F env ((ts ++ [u]) ++ us) ((vs ++ [y]) ++ ws) := by rw [List.append_assoc, List.append_assoc]; exact ra
        have hl2 : us.length = ws.length := by simpa using h
        obtain ⟨S, ru⟩ := (ra'.drop hl2).last (d := u) (by rw [rs_ne (froz_sl hf.1)]; intro z; rw [z] at hf; cases hf.1)
        rw [rs_ne (froz_sl hf.1)] at ru
        have e1 := ru.froz hf.1
        subst e1
        have z := ih hl2 hf.2 ra' (rb.push0 (Tm.of ru))
        rw [List.append_assoc, List.append_assoc] at z
        exact z
  exact (go hl h2 R0 R2).push0 (Tm.of rd)
theorem ggs_cons {es : List Expr} {T1 T2 : List Nat} {g : D → List D → Option (List D)} {gs : List (D → List D → Option (List D))} (h1 : GG X P T1 e g) (h2 : GGs X P T2 es gs) (hs : (assignEach (e :: es) X.env).map (·.2) = assign e X.env :: (assignEach es X.env).map (·.2) := by rfl) : GGs X P (T1 ++ T2) (e :: es) (g :: gs) :=
  PGs.imp (pgs_cons h1 h2 hs) fun v σ H Q ⟨B, F, env, ts, vs, ds, e1, hpp, na, R, hl, hf, eg, q⟩ => by
    cases ds with
    | nil => cases eg
    | cons d ds =>
      cases v with
      | nil => cases hl
      | cons v0 vr =>
        unfold frozL at hf
        rw [Bool.and_eq_true] at hf
        have hl2 : ds.length = vr.length := by simpa using hl
        have eg' : ((g d env).bind fun e1 => tgAll gs ds e1) = some e1 := eg
        cases e2 : g d env with
        | none => rw [e2] at eg'; cases eg'
        | some e3 =>
          rw [e2] at eg'
          have nal : noAl (ts ++ ds) := fun x hx => (List.mem_append.mp hx).elim (na x) fun z => froz_sl (frozL_mem hf.2 x z)
          refine ⟨v0, vr, rfl, B, F, env, ts ++ ds, vs ++ vr, d, e3, hpp, nal, R.swap hl2 hf.1 hf.2, froz_sl hf.1, e2, fun σ' H' F' s1 R' => ?_⟩
          exact ⟨B, F', e3, ts, vs, ds, e1, hpp, na, R', hl2, hf.2, eg', fun σ2 H2 F2 s2 R2 => q σ2 H2 F2 ⟨s2.1.trans s1.1, fun j hj => (s2.2 j fun z => hj (List.mem_append_right _ z)).trans (s1.2 j fun z => hj (List.mem_append_left _ z))⟩ R2⟩
theorem gg_tup {es : List Expr} {T : List Nat} {gs : List (D → List D → Option (List D))} {kk : Nat} (hc : X.calm = true) (h : GGs X P T es gs) (hl : (assignEach es X.env).length = gs.length := by rfl) (hst : (assignEach es X.env).findIdx? (·.1) = none := by rfl) : GG X P T (.Tuple es kk pos) (tgTup gs) :=
  PG.imp (pg_tup (n := gs.length) hc h hl hst) fun v σ H Q ⟨B, F, env, ts, vs, d, e1, hpp, na, R, hd, eg, q⟩ => by
    cases d with
    | tup xs =>
      have eg' : (if frozL xs then tgAll gs xs env else none) = some e1 := eg
      cases hf : frozL xs with
      | false => rw [hf, if_neg Bool.false_ne_true] at eg'; cases eg'
      | true =>
        rw [hf, if_pos rfl] at eg'
        obtain ⟨S, rd⟩ := R.last (d := .tup xs) (fun z => nomatch z)
        have rd' : Rp X.K X.mg F H (.tup xs) v S := rd
        unfold Rp at rd'
        obtain ⟨a, ws, rfl, rl, sq⟩ := rd'
        have e0 := rl.froz hf
        subst e0
        refine ⟨a, ws, rfl, R.ex.sqT sq, ?_, B, F, env, ts, vs, xs, e1, hpp, na, ?_, rl.len, hf, eg', q⟩
        · have len : ∀ {gs : List (D → List D → Option (List D))} {xs env e1 : List D}, tgAll gs xs env = some e1 → xs.length = gs.length := by
            intro gs
            induction gs with
            | nil => intro xs env e1 h; cases xs with
              | nil => rfl
              | cons _ _ => cases h
            | cons g gs ih => intro xs env e1 h; cases xs with
              | nil => cases h
              | cons x xs =>
                have h' : ((g x env).bind fun e1 => tgAll gs xs e1) = some e1 := h
                cases e2 : g x env with
                | none => rw [e2] at h'; cases h'
                | some e3 => rw [e2] at h'; rw [List.length_cons, List.length_cons, ih h']
          rw [← rl.len, len eg']
        · have go : ∀ {xs : List D} {ws : List V} {ts : List D} {vs : List V}, RpL X.K X.mg F H xs ws [] → RE X.K X.mg B σ H F env ts vs → RE X.K X.mg B σ H F env (ts ++ xs) (vs ++ ws) := by
            intro xs
            induction xs with
            | nil => intro ws ts vs h r; unfold RpL at h; rw [h.1, List.append_nil, List.append_nil]; exact r
            | cons x xs ih =>
              intro ws ts vs h r
              unfold RpL at h
              obtain ⟨y, rr, S1, S2, rfl, e2, p1, p2⟩ := h
              obtain ⟨rfl, rfl⟩ := List.append_eq_nil_iff.mp e2.symm
              have z := ih p2 (r.push0 (Tm.of p1))
              rw [List.append_assoc, List.append_assoc] at z
              exact z
          exact go rl (R.drop rfl)
    | _ => cases eg
/-- target = value, a target that is no name -/
@[simp] def nAsgT (g : D → List D → Option (List D)) (a : Dn D) : Sn := fun env => (dU a env).out fun d e => match g d e with
  | some e1 => .nx e1
  | none => .no
theorem gs_asg {tg : Expr} {T : List Nat} {g : D → List D → Option (List D)} (h : GEU X W e (dU dn)) (hg : GG X P T tg g) (hs : swapsWithSole [tg] e pos.line X.env = pure false := by rfl) (hw : swappedStores [tg] e X.env = pure none := by rfl)
    (h1 : (assignEach [tg] X.env).map (·.2) = [assign tg X.env] := by rfl) : GS X W P (.Assign [tg] e pos) (nAsgT g dn) := by
  refine PS.imp (ps_asg h hg hs hw h1) fun T σ H ⟨B, F, env, ts, vs, hpp, na, R, q⟩ => ?_
  refine ⟨B, F, env, ts, vs, R, (ResP.out q).mono (fun d e1 h1 v H1 F1 hd R1 => ?_) fun _ _ _ _ z => z⟩
  cases eg : g d e1 with
  | none => rw [eg] at h1; exact h1.elim
  | some e2 =>
    rw [eg] at h1
    exact ⟨B, F1, e1, ts, vs, d, e2, hpp, na, R1, hd, eg, fun σ' H' F' _ R' => h1 σ' H' F' R'⟩

/-! ### what is walked -/
def itSeq (a : Dn D) : Dn (List D × List D) := (dU a).bind fun d env => match fz d with
  | .lst false xs => if frozL xs then .ok ([.lst false xs], xs) env else .no
  | .tup xs => if frozL xs then .ok ([.tup xs], xs) env else .no
  | _ => .no
def isLst : D → Bool
  | .lst _ _ => true
  | _ => false
@[simp] def itLst (a : Dn D) : Dn (List D × List D) := (dU a).bind fun d env => match d with
  | .lst o xs => if frozL (fzL xs) then .ok ([.lst false (fzL xs)], fzL xs) env else .no
  | .scr ns => .ok ([.scr ns], ns.map .int) env
  | _ => .no
@[simp] def itTup (a : Dn D) : Dn (List D × List D) := (dU a).bind fun d env => match d with
  | .tup xs => if frozL xs then .ok ([.tup xs], xs) env else .no
  | _ => .no
theorem RpL.get {K : PySem.W.Frag} {mg : Str → Option Value} {F H : Hp} : ∀ {ds : List D} {vs : List V} {k : Nat} {d : D}, RpL K mg F H ds vs [] → ds[k]? = some d → ∃ v, vs[k]? = some v ∧ Rp K mg F H d v []
  | [], _, _, _, _, e => by simp at e
  | x :: xs, vs, k, d, h, e => by
    unfold RpL at h
    obtain ⟨v, r, S1, S2, rfl, e2, h1, h2⟩ := h
    obtain ⟨rfl, rfl⟩ := List.append_eq_nil_iff.mp e2.symm
    cases k with
    | zero => cases e; exact ⟨v, rfl, h1⟩
    | succ k => exact RpL.get (ds := xs) (k := k) h2 (by rw [List.getElem?_cons_succ] at e; exact e)
theorem itok_list {K : PySem.W.Frag} {mg : Str → Option Value} {a : Addr} {xs : List D} {b : Bool} (hf : frozL xs = true) : ItOK K mg (Itl K a) [.lst false xs] [.ref a] xs := by
  intro B σ H F env ts ms vs ns k hm R
  obtain ⟨S, rd⟩ := (R.drop hm).last (d := .lst false xs) (fun z => nomatch z)
  have rd' : Rp K mg F H (.lst false xs) (.ref a) S := rd
  unfold Rp at rd'
  obtain ⟨a', ws, S', e, rl, ho⟩ := rd'
  cases e
  rw [if_neg Bool.false_ne_true] at ho
  obtain ⟨sq, rfl, _⟩ := ho
  have sqH : SqL K H a ws := Or.inl (Or.inl (R.ex _ _ sq))
  refine ⟨fun x hx => ?_, fun hk => ⟨ws, sqH, by rw [← rl.len]; exact hk⟩⟩
  obtain ⟨v, ev, rp⟩ := rl.get hx
  refine ⟨⟨ws, v, sqH, ev⟩, fun u H1 ⟨e1, y⟩ => ?_⟩
  subst e1
  have e2 := y ws sqH
  rw [ev] at e2
  cases e2
  exact ⟨F, R.push0 (Tm.of rp)⟩
theorem itok_tup {K : PySem.W.Frag} {mg : Str → Option Value} {a : Addr} {xs : List D} (hf : frozL xs = true) : ItOK K mg (Itt K a) [.tup xs] [.ref a] xs := by
  intro B σ H F env ts ms vs ns k hm R
  obtain ⟨S, rd⟩ := (R.drop hm).last (d := .tup xs) (fun z => nomatch z)
  have rd' : Rp K mg F H (.tup xs) (.ref a) S := rd
  unfold Rp at rd'
  obtain ⟨a', ws, e, rl, sq⟩ := rd'
  cases e
  have e0 := rl.froz hf
  subst e0
  have sqH := R.ex.sqT sq
  refine ⟨fun x hx => ?_, fun hk => ⟨ws, sqH, by rw [← rl.len]; exact hk⟩⟩
  obtain ⟨v, ev, rp⟩ := rl.get hx
  refine ⟨⟨ws, v, sqH, ev⟩, fun u H1 ⟨e1, y⟩ => ?_⟩
  subst e1
  have e2 := y ws sqH
  rw [ev] at e2
  cases e2
  exact ⟨F, R.push0 (Tm.of rp)⟩
theorem RpL.dints {K : PySem.W.Frag} {mg : Str → Option Value} {F H : Hp} : ∀ ns : List Int, RpL K mg F H (ns.map .int) (ns.map V.int) []
  | [] => by unfold RpL; exact ⟨rfl, rfl⟩
  | n :: ns => by
    rw [List.map_cons, List.map_cons]
    unfold RpL
    exact ⟨.int n, _, [], [], rfl, rfl, rp_int, RpL.dints ns⟩
theorem itok_scr {K : PySem.W.Frag} {mg : Str → Option Value} {a : Addr} {ns : List Int} : ItOK K mg (Itl K a) [.scr ns] [.ref a] (ns.map .int) := by
  intro B σ H F env ts ms vs rs k hm R
  obtain ⟨S, rd⟩ := (R.drop hm).last (d := .scr ns) (fun z => nomatch z)
  have rd' : Rp K mg F H (.scr ns) (.ref a) S := rd
  unfold Rp at rd'
  obtain ⟨_, a', e, sq⟩ := rd'
  cases e
  have sqH : SqL K H a (ns.map V.int) := R.ex.sqL sq
  refine ⟨fun x hx => ?_, fun hk => ⟨_, sqH, by rw [List.length_map] at hk ⊢; exact hk⟩⟩
  obtain ⟨v, ev, rp⟩ := (RpL.dints (K := K) (mg := mg) (F := F) (H := H) ns).get hx
  refine ⟨⟨_, v, sqH, ev⟩, fun u H1 ⟨e1, y⟩ => ?_⟩
  subst e1
  have e2 := y _ sqH
  rw [ev] at e2
  cases e2
  exact ⟨F, R.push0 (Tm.of rp)⟩
theorem noAl_froz {ds : List D} (h : frozL ds = true) : noAl ds := fun d hd => froz_sl (frozL_mem h d hd)
theorem gi_list {tg : Expr} (h : GEU X W e (dU dn)) : GI X W tg e (itLst dn) := by
  refine PI.imp (pi_list (PE.ghost h)) fun σ H R ⟨B, F, env, ts, vs, r, q⟩ => ?_
  refine ⟨B, F, env, ts, vs, r, (ResP.bind q).mono (fun d e1 q1 v H1 F1 hd R1 => ?_) fun _ _ _ _ z => z⟩
  cases d with
  | lst o xs =>
    dsimp only at q1
    cases hf : frozL (fzL xs) with
    | false => rw [hf, if_neg Bool.false_ne_true] at q1; exact q1.elim
    | true =>
      rw [hf, if_pos rfl] at q1
      obtain ⟨S, R2⟩ := R1.fzLast hd
      refine ⟨S, fun ods => ?_⟩
      obtain ⟨F2, R2, rp⟩ := R2 ods
      have rp' := rp
      unfold fz Rp at rp'
      obtain ⟨a, ws, S', rfl, rl, ho⟩ := rp'
      rw [if_neg Bool.false_ne_true] at ho
      have fz1 : frozL [D.lst false (fzL xs)] = true := by unfold frozL froz; rw [hf]; rfl
      exact ⟨a, rfl, ⟨ws, Or.inl (Or.inl (R2.ex _ _ ho.1))⟩, q1 _ [.ref a] _ F2 rfl (noAl_froz fz1) (noAl_froz hf) R2 (itok_list (b := true) hf).k⟩
  | scr ns =>
    refine ghost0 (Q := fun H1 => ∃ a, v = V.ref a ∧ (∃ xs, SqL X.K H1 a xs) ∧ R (Itl X.K a) H1) ?_
    obtain ⟨S, rp⟩ := R1.last (d := .scr ns) (fun z => nomatch z)
    have rp' : Rp X.K X.mg F1 H1 (.scr ns) v S := rp
    unfold Rp at rp'
    obtain ⟨_, a, rfl, sq⟩ := rp'
    have fz1 : frozL [D.scr ns] = true := rfl
    have fz2 : noAl (ns.map D.int) := fun d hd i z => by
      obtain ⟨n, _, rfl⟩ := List.mem_map.mp hd
      cases z
    exact ⟨a, rfl, ⟨_, R1.ex.sqL sq⟩, q1 _ [.ref a] H1 F1 rfl (noAl_froz fz1) fz2 R1 itok_scr.k⟩
  | _ => exact q1.elim
theorem gi_tup {tg : Expr} (h : GEU X W e (dU dn)) : GI X W tg e (itTup dn) := by
  refine PI.imp (pi_tup h) fun σ H R ⟨B, F, env, ts, vs, r, q⟩ => ?_
  refine ⟨B, F, env, ts, vs, r, (ResP.bind q).mono (fun d e1 q1 v H1 F1 hd R1 => ?_) fun _ _ _ _ z => z⟩
  cases d with
  | tup xs =>
    dsimp only at q1
    cases hf : frozL xs with
    | false => rw [hf, if_neg Bool.false_ne_true] at q1; exact q1.elim
    | true =>
      rw [hf, if_pos rfl] at q1
      obtain ⟨S, rp⟩ := R1.last (d := .tup xs) (fun z => nomatch z)
      have rp' : Rp X.K X.mg F1 H1 (.tup xs) v S := rp
      unfold Rp at rp'
      obtain ⟨a, ws, rfl, rl, sq⟩ := rp'
      have fz1 : frozL [D.tup xs] = true := by unfold frozL froz; rw [hf]; rfl
      exact ⟨a, rfl, ⟨ws, R1.ex.sqT sq⟩, q1 _ [.ref a] H1 F1 rfl (noAl_froz fz1) (noAl_froz hf) R1 (itok_tup hf).k⟩
  | _ => exact q1.elim
/-- range(n), range(a, b) -/
def dints (lo : Int) (n : Nat) : List D := (List.range n).map fun (i : Nat) => D.int (lo + (i : Int))
@[simp] def itRng1 (r : Dn (List D)) : Dn (List D × List D) := r.bind fun ds env => match ds.map (rs env) with
  | [.int j] => if -(2 ^ 62) ≤ j ∧ j < 2 ^ 62 then .ok ([], dints 0 j.toNat) env else .no
  | _ => .no
@[simp] def itRng2 (r : Dn (List D)) : Dn (List D × List D) := r.bind fun ds env => match ds.map (rs env) with
  | [.int i, .int j] => if -(2 ^ 62) ≤ i ∧ i < 2 ^ 62 ∧ -(2 ^ 62) ≤ j ∧ j < 2 ^ 62 then .ok ([], dints i (j - i).toNat) env else .no
  | _ => .no
theorem itok_rng {K : PySem.W.Frag} {mg : Str → Option Value} {lo : Int} {n : Nat} : ItOK K mg (Itr lo n) [] [] (dints lo n) := by
  intro B σ H F env ts ms vs ns k hm R
  unfold dints
  refine ⟨fun x hx => ?_, fun hk => (show n ≤ k by simpa using hk)⟩
  rw [List.getElem?_map] at hx
  by_cases hk : k < n
  · rw [List.getElem?_range hk] at hx
    cases hx
    refine ⟨hk, fun v H1 ⟨e1, e2⟩ => ?_⟩
    subst e1 e2
    exact ⟨F, R.push0 (Tm.of rp_int)⟩
  · rw [List.getElem?_eq_none (by simpa using hk)] at hx
    cases hx
theorem noAl_ints {lo : Int} {n : Nat} : noAl (dints lo n) := fun d hd i z => by
  unfold dints at hd
  obtain ⟨j, _, rfl⟩ := List.mem_map.mp hd
  cases z
theorem AllRp.int1 {K : PySem.W.Frag} {mg : Str → Option Value} {F H : Hp} {ws : List V} {j : Int} (h : AllRp K mg F H [.int j] ws) : ws = [.int j] := by
  unfold AllRp at h
  obtain ⟨v, r, rfl, ⟨S, rp⟩, h2⟩ := h
  unfold AllRp at h2
  unfold Rp at rp
  rw [h2, rp.1]
theorem AllRp.int2 {K : PySem.W.Frag} {mg : Str → Option Value} {F H : Hp} {ws : List V} {i j : Int} (h : AllRp K mg F H [.int i, .int j] ws) : ws = [.int i, .int j] := by
  unfold AllRp at h
  obtain ⟨v, r, rfl, ⟨S, rp⟩, h2⟩ := h
  unfold Rp at rp
  rw [h2.int1, rp.1]
theorem gi_rng1 {tg : Expr} (hm : X.mg "range" = none) (h : GA X W [e] da) (hg : Gl X "range" := by rfl) (hs : starEach [e] X.env = [(false, eval e X.env)] := by rfl) : GI X W tg (.Call (.Name "range" p) [e] [] pos) (itRng1 da) := by
  refine PI.imp (pi_range1 hg hm h hs) fun σ H R ⟨B, F, env, ts, vs, r, q⟩ => ?_
  refine ⟨B, F, env, ts, vs, r, (ResP.bind q).mono (fun ds e1 q1 ws H1 F1 hl R1 => ?_) fun _ _ _ _ z => z⟩
  split at q1
  · rename_i j he
    have al := all_rp hl R1 (by rw [he]; rfl)
    rw [he] at al
    by_cases hj : -(2 ^ 62) ≤ j ∧ j < 2 ^ 62
    · rw [if_pos hj] at q1
      exact ⟨j, al.int1, hj.1, hj.2, q1 _ [] H1 F1 rfl (fun d hd => absurd hd List.not_mem_nil) noAl_ints (by rw [List.append_nil, List.append_nil]; exact R1.drop hl) itok_rng.k⟩
    · rw [if_neg hj] at q1; exact q1.elim
  · exact q1.elim
theorem gi_rng2 {tg : Expr} (hm : X.mg "range" = none) (h : GA X W [e, a] da) (hg : Gl X "range" := by rfl) (hs : starEach [e, a] X.env = [(false, eval e X.env), (false, eval a X.env)] := by rfl) (hs2 : starEach [a] X.env = [(false, eval a X.env)] := by rfl) : GI X W tg (.Call (.Name "range" p) [e, a] [] pos) (itRng2 da) := by
  refine PI.imp (pi_range2 hg hm h hs hs2) fun σ H R ⟨B, F, env, ts, vs, r, q⟩ => ?_
  refine ⟨B, F, env, ts, vs, r, (ResP.bind q).mono (fun ds e1 q1 ws H1 F1 hl R1 => ?_) fun _ _ _ _ z => z⟩
  split at q1
  · rename_i i j he
    have al := all_rp hl R1 (by rw [he]; rfl)
    rw [he] at al
    by_cases hj : -(2 ^ 62) ≤ i ∧ i < 2 ^ 62 ∧ -(2 ^ 62) ≤ j ∧ j < 2 ^ 62
    · rw [if_pos hj] at q1
      exact ⟨i, j, al.int2, hj, q1 _ [] H1 F1 rfl (fun d hd => absurd hd List.not_mem_nil) noAl_ints (by rw [List.append_nil, List.append_nil]; exact R1.drop hl) itok_rng.k⟩
    · rw [if_neg hj] at q1; exact q1.elim
  · exact q1.elim
end
end DL
set_option Elab.async false
set_option linter.all false
set_option maxRecDepth 100000
set_option maxHeartbeats 2000000
/-! DLg: operators and built-ins on trees. -/
namespace DL
open PySem L2

/-! ### ints -/
def fInt (g : Int → Int → D) : D → D → Option D
  | .int i, .int j => some (g i j)
  | _, _ => none
def fIntC (c : Int → Int → Bool) (g : Int → Int → D) : D → D → Option D
  | .int i, .int j => if c i j then some (g i j) else none
  | _, _ => none
section
variable {K : PySem.W.Frag} {mg : Str → Option Value} {X : Cx}
theorem os_int {g : Int → Int → V} {g' : Int → Int → D} (h : ∀ i j F H, Rp K mg F H (g' i j) (g i j) []) : OpS K mg (rI0 g) (fInt g') := by
  intro B σ H F env ts vs dx dy vx vy Sx Sy d Q R h1 h2 e k
  cases dx with
  | int i =>
    cases dy with
    | int j =>
      cases e
      unfold Rp at h1 h2
      exact ⟨i, j, h1.1, h2.1, k _ H F (R.push0 (Tm.of (h i j F H)))⟩
    | _ => cases e
  | _ => cases e
theorem os_intC {C : Int → Int → Prop} {c : Int → Int → Bool} {g : Int → Int → V} {g' : Int → Int → D} (hc : ∀ i j, c i j = true → C i j) (h : ∀ i j F H, Rp K mg F H (g' i j) (g i j) []) : OpS K mg (rI C g) (fIntC c g') := by
  intro B σ H F env ts vs dx dy vx vy Sx Sy d Q R h1 h2 e k
  cases dx with
  | int i =>
    cases dy with
    | int j =>
      have e' : (if c i j then some (g' i j) else none) = some d := e
      cases hcc : c i j with
      | false => rw [hcc, if_neg Bool.false_ne_true] at e'; cases e'
      | true =>
        rw [hcc, if_pos rfl] at e'
        cases e'
        unfold Rp at h1 h2
        exact ⟨i, j, h1.1, h2.1, hc i j hcc, k _ H F (R.push0 (Tm.of (h i j F H)))⟩
    | _ => cases e
  | _ => cases e
theorem rpi {i : Int} {F H : Hp} : Rp K mg F H (.int i) (.int i) [] := rp_int
theorem rpb {b : Bool} {F H : Hp} : Rp K mg F H (.bl b) (.bl b) [] := rp_bl

/-! ### + : ints, lists, texts, tuples -/
def fCat : D → D → Option D
  | .lst _ xs, .lst _ ys => if frozL xs && frozL ys && decide (xs.length + ys.length ≤ sizeLine) then some (.lst true (xs ++ ys)) else none
  | _, _ => none
def fCatT : D → D → Option D
  | .tup xs, .tup ys => if frozL xs && frozL ys && decide (xs.length + ys.length ≤ sizeLine) then some (.tup (xs ++ ys)) else none
  | _, _ => none
def fCatS : D → D → Option D
  | .str x, .str y => if x.length + y.length ≤ sizeLine then some (.str (x ++ y)) else none
  | _, _ => none
theorem lst_inv {o : Bool} {xs : List D} {F H : Hp} {v : V} {S : List Addr} (h : Rp K mg F H (.lst o xs) v S) (e : Ex F H) : ∃ a vs S', v = .ref a ∧ RpL K mg F H xs vs S' ∧ H a = some (.lst vs) := by
  unfold Rp at h
  obtain ⟨a, vs, S', rfl, hl, ho⟩ := h
  cases o with
  | true => rw [if_pos rfl] at ho; exact ⟨a, vs, S', rfl, hl, ho.1⟩
  | false => rw [if_neg Bool.false_ne_true] at ho; exact ⟨a, vs, S', rfl, hl, e _ _ ho.1⟩
theorem lst_inv0 {o : Bool} {xs : List D} {F H : Hp} {v : V} {S : List Addr} (h : Rp K mg F H (.lst o xs) v S) (e : Ex F H) (hf : frozL xs = true) : ∃ a vs, v = .ref a ∧ RpL K mg F H xs vs [] ∧ H a = some (.lst vs) := by
  obtain ⟨a, vs, S', e1, hl, hs⟩ := lst_inv h e
  have e0 := hl.froz hf
  subst e0
  exact ⟨a, vs, e1, hl, hs⟩
theorem tup_inv0 {xs : List D} {F H : Hp} {v : V} {S : List Addr} (h : Rp K mg F H (.tup xs) v S) (e : Ex F H) (hf : frozL xs = true) : ∃ a vs, v = .ref a ∧ RpL K mg F H xs vs [] ∧ SqT K H a vs ∧ Rp K mg F H (.tup xs) v [] := by
  have h0 := h
  unfold Rp at h
  obtain ⟨a, vs, e1, hl, hs⟩ := h
  have e0 := hl.froz hf
  subst e0
  exact ⟨a, vs, e1, hl, e.sqT hs, h0⟩
theorem frozL_app : ∀ {xs ys : List D}, frozL (xs ++ ys) = (frozL xs && frozL ys)
  | [], ys => by rw [List.nil_append]; unfold frozL; cases ys <;> rfl
  | x :: xs, ys => by
    show (froz x && frozL (xs ++ ys)) = _
    rw [frozL_app]
    show _ = ((froz x && frozL xs) && frozL ys)
    rw [Bool.and_assoc]
theorem os_cat : OpS K mg L2.rCat fCat := by
  intro B σ H F env ts vs dx dy vx vy Sx Sy d Q R h1 h2 e k
  cases dx with
  | lst o xs =>
    cases dy with
    | lst o2 ys =>
      have e' : (if frozL xs && frozL ys && decide (xs.length + ys.length ≤ sizeLine) then some (D.lst true (xs ++ ys)) else none) = some d := e
      split at e'
      · rename_i hc
        rw [Bool.and_eq_true, Bool.and_eq_true] at hc
        cases e'
        obtain ⟨a, us, rfl, rl, s1⟩ := lst_inv0 h1 R.ex hc.1.1
        obtain ⟨b, ws, rfl, rl2, s2⟩ := lst_inv0 h2 R.ex hc.1.2
        have hz := of_decide_eq_true hc.2
        rw [rl.len, rl2.len] at hz
        exact ⟨a, b, us, ws, rfl, rfl, s1, s2, hz, fun p hp => k _ _ _ (R.newLst0 (rl.append rl2) hp)⟩
      · cases e'
    | _ => cases e
  | _ => cases e
theorem os_catT : OpS K mg (L2.rCatA K) fCatT := by
  intro B σ H F env ts vs dx dy vx vy Sx Sy d Q R h1 h2 e k
  cases dx with
  | tup xs =>
    cases dy with
    | tup ys =>
      have e' : (if frozL xs && frozL ys && decide (xs.length + ys.length ≤ sizeLine) then some (D.tup (xs ++ ys)) else none) = some d := e
      split at e'
      · rename_i hc
        rw [Bool.and_eq_true, Bool.and_eq_true] at hc
        cases e'
        obtain ⟨a, us, rfl, rl, s1, t1⟩ := tup_inv0 h1 R.ex hc.1.1
        obtain ⟨b, ws, rfl, rl2, s2, t2⟩ := tup_inv0 h2 R.ex hc.1.2
        have hz := of_decide_eq_true hc.2
        rw [rl.len, rl2.len] at hz
        refine ⟨a, b, us, ws, rfl, rfl, s1, s2, hz, fun h0 => ?_, fun _ h0 => ?_, fun _ _ p hp => ?_⟩
        · subst h0
          have x0 : xs = [] := List.length_eq_zero_iff.mp rl.len
          subst x0
          exact k _ H F (R.push0 (Tm.of t2))
        · subst h0
          have y0 : ys = [] := List.length_eq_zero_iff.mp rl2.len
          subst y0
          refine k _ H F (R.push0 (Tm.of ?_))
          rw [List.append_nil]
          exact t1
        · have R2 := R.newF (o := .tup (us ++ ws)) hp
          refine k _ _ _ (R2.push0 (Tm.of ?_))
          unfold Rp
          exact ⟨p, us ++ ws, rfl, (rl.append rl2).stay (Ex.new (R.ex.none hp)) fun a ha => absurd ha List.not_mem_nil, Or.inl (Or.inl upd_same)⟩
      · cases e'
    | _ => cases e
  | _ => cases e
theorem os_catS : OpS K mg (fun x y H Q => ∃ i j, x = .str i ∧ y = .str j ∧ i.length + j.length ≤ sizeLine ∧ Q (.str (i ++ j)) H) fCatS := by
  intro B σ H F env ts vs dx dy vx vy Sx Sy d Q R h1 h2 e k
  cases dx with
  | str x =>
    cases dy with
    | str y =>
      have e' : (if x.length + y.length ≤ sizeLine then some (D.str (x ++ y)) else none) = some d := e
      split at e'
      · rename_i hz
        cases e'
        unfold Rp at h1 h2
        exact ⟨x, y, h1.1, h2.1, hz, k _ H F (R.push0 (Tm.of rp_str))⟩
      · cases e'
    | _ => cases e
  | _ => cases e
def fAdd : D → D → Option D := fOr (fInt fun i j => .int (i + j)) (fOr fCat (fOr fCatT fCatS))
def rAddA (K : PySem.W.Frag) : R2 := fun x y H Q => rI0 (fun i j => .int (i + j)) x y H Q ∨ L2.rCat x y H Q ∨ L2.rCatA K x y H Q ∨ ∃ i j, x = .str i ∧ y = .str j ∧ i.length + j.length ≤ sizeLine ∧ Q (.str (i ++ j)) H
theorem os_add : OpS K mg (rAddA K) fAdd := OpS.or (os_int fun i j F H => rpi) (OpS.or os_cat (OpS.or os_catT os_catS))
theorem op_addA : OpR X (binaryOp .Add) (rAddA X.K) := OpR.or op_add (OpR.or op_cat (OpR.or op_catA op_add_str))

/-! ### the other operators on ints -/
def fSub : D → D → Option D := fInt fun i j => .int (i - j)
theorem os_sub : OpS K mg (rI0 fun i j => .int (i - j)) fSub := os_int fun i j F H => rpi
/-- a factor below 2 ^ 64, or both below 2 ^ 100000 -/
def cMul (i j : Int) : Bool := decide (-(2 ^ 64) < i ∧ i < 2 ^ 64) || decide (-(2 ^ 64) < j ∧ j < 2 ^ 64)
def fRep : D → D → Option D
  | .lst _ xs, .int k => if frozL xs && decide (-(2 ^ 63) ≤ k) && decide (k < 2 ^ 63) && decide (xs.length * k.toNat ≤ sizeLine) then some (.lst true (List.replicate k.toNat xs).flatten) else none
  | _, _ => none
theorem rpl_rep {F H : Hp} {xs : List D} {vs : List V} (h : RpL K mg F H xs vs []) : ∀ n : Nat, RpL K mg F H (List.replicate n xs).flatten (List.replicate n vs).flatten []
  | 0 => by unfold RpL; exact ⟨rfl, rfl⟩
  | n + 1 => by
    rw [List.replicate_succ, List.replicate_succ, List.flatten_cons, List.flatten_cons]
    exact h.append (rpl_rep h n)
theorem os_rep : OpS K mg L2.rRep fRep := by
  intro B σ H F env ts vs dx dy vx vy Sx Sy d Q R h1 h2 e k
  cases dx with
  | lst o xs =>
    cases dy with
    | int j =>
      have e' : (if frozL xs && decide (-(2 ^ 63) ≤ j) && decide (j < 2 ^ 63) && decide (xs.length * j.toNat ≤ sizeLine) then some (D.lst true (List.replicate j.toNat xs).flatten) else none) = some d := e
      split at e'
      · rename_i hc
        rw [Bool.and_eq_true, Bool.and_eq_true, Bool.and_eq_true] at hc
        cases e'
        obtain ⟨⟨⟨c1, c2⟩, c3⟩, c4⟩ := hc
        obtain ⟨a, us, rfl, rl, s1⟩ := lst_inv0 h1 R.ex c1
        unfold Rp at h2
        have hz := of_decide_eq_true c4
        rw [rl.len] at hz
        exact ⟨a, j, us, rfl, h2.1, s1, of_decide_eq_true c2, of_decide_eq_true c3, hz, fun p hp => k _ _ _ (R.newLst0 (rpl_rep rl _) hp)⟩
      · cases e'
    | _ => cases e
  | _ => cases e
theorem cMul_ok {i j : Int} (h : cMul i j = true) : CMul i j := by
  unfold cMul at h
  rw [Bool.or_eq_true] at h
  exact h.imp of_decide_eq_true of_decide_eq_true
def fMul : D → D → Option D := fOr (fIntC cMul fun i j => .int (i * j)) fRep
def rMulA : R2 := fun x y H Q => rI CMul (fun i j => .int (i * j)) x y H Q ∨ L2.rRep x y H Q
theorem os_mul : OpS K mg rMulA fMul := OpS.or (os_intC (fun i j => cMul_ok) fun i j F H => rpi) os_rep
theorem op_mulA : OpR X (binaryOp .Mult) rMulA := OpR.or op_mul op_rep
def cDivW (_ j : Int) : Bool := decide (0 < j) && decide (j.natAbs.log2 < 9000)
def fDiv : D → D → Option D := fIntC cDivW fun i j => .int (i / j)
theorem os_div : OpS K mg (rI CDivW fun i j => .int (i / j)) fDiv := os_intC (fun i j h => by unfold cDivW at h; rw [Bool.and_eq_true] at h; exact ⟨of_decide_eq_true h.1, of_decide_eq_true h.2⟩) fun i j F H => rpi
def fMod : D → D → Option D := fIntC (fun _ j => decide (0 < j)) fun i j => .int (i % j)
theorem os_mod : OpS K mg (rI (fun _ j => 0 < j) fun i j => .int (i % j)) fMod := os_intC (fun i j h => of_decide_eq_true h) fun i j F H => rpi
def cPow (i j : Int) : Bool := decide (0 ≤ j ∧ j ≤ 1000000 ∧ i.natAbs < 2 ^ 64)
def fPow : D → D → Option D := fIntC cPow fun i j => .int (i ^ j.toNat)
theorem os_pow : OpS K mg (rI CPow fun i j => .int (i ^ j.toNat)) fPow := os_intC (fun i j h => by unfold cPow at h; have z := of_decide_eq_true h; exact z) fun i j F H => rpi
def fLt : D → D → Option D := fInt fun i j => .bl (decide (i < j))
def fLe : D → D → Option D := fInt fun i j => .bl (decide (i ≤ j))
def fGt : D → D → Option D := fInt fun i j => .bl (decide (j < i))
def fGe : D → D → Option D := fInt fun i j => .bl (decide (j ≤ i))
theorem os_lt : OpS K mg (rI0 fun i j => .bl (decide (i < j))) fLt := os_int fun i j F H => rpb
theorem os_le : OpS K mg (rI0 fun i j => .bl (decide (i ≤ j))) fLe := os_int fun i j F H => rpb
theorem os_gt : OpS K mg (rI0 fun i j => .bl (decide (j < i))) fGt := os_int fun i j F H => rpb
theorem os_ge : OpS K mg (rI0 fun i j => .bl (decide (j ≤ i))) fGe := os_int fun i j F H => rpb
def fNeg : D → Option D
  | .int i => some (.int (-i))
  | _ => none
theorem us_neg : UnS K mg (rU fun i => .int (-i)) fNeg := by
  intro B σ H F env ts vs dx vx Sx d Q R h1 e k
  cases dx with
  | int i => cases e; unfold Rp at h1; exact ⟨i, h1.1, k _ H F (R.push0 (Tm.of rp_int))⟩
  | _ => cases e

/-! ### data: ==, != -/
mutual
def toPy : D → Option PyData
  | .non => some .none
  | .bl b => some (.bool b)
  | .int i => some (.int i)
  | .str x => some (.str x)
  | .lst _ xs => (toPyL xs).map .list
  | .tup xs => (toPyL xs).map .tuple
  | _ => none
def toPyL : List D → Option (List PyData)
  | [] => some []
  | d :: ds => (toPy d).bind fun p => (toPyL ds).map fun ps => p :: ps
end
mutual
theorem Rp.dp {F H : Hp} : ∀ {d : D} {v : V} {S : List Addr} {q : PyData}, Ex F H → Rp K mg F H d v S → toPy d = some q → Dp K H v q
  | .un, _, _, _, _, h, _ => by unfold Rp at h; exact h.elim
  | .sl _, _, _, _, _, h, _ => by unfold Rp at h; exact h.elim
  | .exc _ _ _, _, _, _, _, _, z => by unfold toPy at z; cases z
  | .non, _, _, _, _, h, z => by unfold Rp at h; unfold toPy at z; cases z; rw [h.1]; exact .non
  | .bl b, _, _, _, _, h, z => by unfold Rp at h; unfold toPy at z; cases z; rw [h.1]; exact .bl b
  | .int b, _, _, _, _, h, z => by unfold Rp at h; unfold toPy at z; cases z; rw [h.1]; exact .int b
  | .str b, _, _, _, _, h, z => by unfold Rp at h; unfold toPy at z; cases z; rw [h.1]; exact .str b
  | .lst o xs, v, S, q, e, h, z => by
    obtain ⟨a, vs, S', rfl, hl, hs⟩ := lst_inv h e
    unfold toPy at z
    cases zz : toPyL xs with
    | none => rw [zz] at z; cases z
    | some ps => rw [zz] at z; cases z; exact .lst (Or.inl (Or.inl hs)) (RpL.dp e hl zz)
  | .tup xs, v, S, q, e, h, z => by
    unfold Rp at h
    obtain ⟨a, vs, rfl, hl, hs⟩ := h
    unfold toPy at z
    cases zz : toPyL xs with
    | none => rw [zz] at z; cases z
    | some ps => rw [zz] at z; cases z; exact .tup (e.sqT hs) (RpL.dp e hl zz)
  | .dct _ _ _, _, _, _, _, _, z => by unfold toPy at z; cases z
  | .obj _ _ _ _, _, _, _, _, _, z => by unfold toPy at z; cases z
  | .scr _, _, _, _, _, _, z => by unfold toPy at z; cases z
theorem RpL.dp {F H : Hp} : ∀ {ds : List D} {vs : List V} {S : List Addr} {qs : List PyData}, Ex F H → RpL K mg F H ds vs S → toPyL ds = some qs → DpAll K H vs qs
  | [], _, _, _, _, h, z => by unfold RpL at h; unfold toPyL at z; cases z; rw [h.1]; exact .nil
  | d :: ds, _, _, _, e, h, z => by
    unfold RpL at h
    obtain ⟨v, r, S1, S2, rfl, rfl, h1, h2⟩ := h
    unfold toPyL at z
    cases z1 : toPy d with
    | none => rw [z1] at z; cases z
    | some p =>
      rw [z1] at z
      have z' : ((toPyL ds).map fun ps => p :: ps) = some _ := z
      cases z2 : toPyL ds with
      | none => rw [z2] at z'; cases z'
      | some ps => rw [z2] at z'; cases z'; exact .cons (Rp.dp e h1 z1) (RpL.dp e h2 z2)
end
def eqP (x y : D) : Option Bool := (toPy x).bind fun p => (toPy y).bind fun q => if SeqAt.shaped p && SeqAt.shaped q then some (PyData.eqv p q) else none
def fEq (x y : D) : Option D := (eqP x y).map .bl
def fNe (x y : D) : Option D := (eqP x y).map fun b => .bl (!b)
theorem eqP_inv {x y : D} {b : Bool} (h : eqP x y = some b) : ∃ p q, toPy x = some p ∧ toPy y = some q ∧ SeqAt.shaped p = true ∧ SeqAt.shaped q = true ∧ b = PyData.eqv p q := by
  unfold eqP at h
  cases hx : toPy x with
  | none => rw [hx] at h; cases h
  | some p =>
    rw [hx] at h
    cases hy : toPy y with
    | none => rw [hy] at h; cases h
    | some q =>
      rw [hy] at h
      have h' : (if SeqAt.shaped p && SeqAt.shaped q then some (PyData.eqv p q) else none) = some b := h
      split at h'
      · rename_i hc
        rw [Bool.and_eq_true] at hc
        cases h'
        exact ⟨p, q, rfl, rfl, hc.1, hc.2, rfl⟩
      · cases h'
theorem os_eq : OpS K mg (rEqD K) fEq := by
  intro B σ H F env ts vs dx dy vx vy Sx Sy d Q R h1 h2 e k
  unfold fEq at e
  cases he : eqP dx dy with
  | none => rw [he] at e; cases e
  | some b =>
    rw [he] at e
    cases e
    obtain ⟨p, q, e1, e2, s1, s2, rfl⟩ := eqP_inv he
    exact ⟨p, q, h1.dp R.ex e1, h2.dp R.ex e2, s1, s2, k _ H F (R.push0 (Tm.of rp_bl))⟩
theorem os_ne : OpS K mg (rNeD K) fNe := by
  intro B σ H F env ts vs dx dy vx vy Sx Sy d Q R h1 h2 e k
  unfold fNe at e
  cases he : eqP dx dy with
  | none => rw [he] at e; cases e
  | some b =>
    rw [he] at e
    cases e
    obtain ⟨p, q, e1, e2, s1, s2, rfl⟩ := eqP_inv he
    exact ⟨p, q, h1.dp R.ex e1, h2.dp R.ex e2, s1, s2, k _ H F (R.push0 (Tm.of rp_bl))⟩
theorem fEq_un1 (y : D) : fEq .un y = none := rfl
theorem fEq_un2 (x : D) : fEq x .un = none := by unfold fEq eqP; cases toPy x <;> rfl
theorem fNe_un1 (y : D) : fNe .un y = none := rfl
theorem fNe_un2 (x : D) : fNe x .un = none := by unfold fNe eqP; cases toPy x <;> rfl
/-! ### is None -/
def isNone : D → Bool
  | .non => true
  | _ => false
theorem Rp.isNon {F H : Hp} {d : D} {v : V} {S : List Addr} (h : Rp K mg F H d v S) : decide (v = .non) = isNone d := by
  cases d <;> unfold Rp at h
  case un => exact h.elim
  case sl => exact h.elim
  case exc => obtain ⟨_, a, _, _, rfl, _⟩ := h; rfl
  case non => rw [h.1]; rfl
  case bl => rw [h.1]; rfl
  case int => rw [h.1]; rfl
  case str => rw [h.1]; rfl
  case lst => obtain ⟨a, _, _, rfl, _⟩ := h; rfl
  case tup => obtain ⟨a, _, rfl, _⟩ := h; rfl
  case dct => obtain ⟨a, _, _, rfl, _⟩ := h; rfl
  case obj => obtain ⟨a, _, _, _, _, rfl, _⟩ := h; rfl
  case scr => obtain ⟨_, a, rfl, _⟩ := h; rfl
def fIs : D → D → Option D
  | x, .non => if isUn x then none else some (.bl (isNone x))
  | _, _ => none
def fIsN : D → D → Option D
  | x, .non => if isUn x then none else some (.bl (!isNone x))
  | _, _ => none
theorem os_is : OpS K mg (fun x y H Q => y = .non ∧ Q (.bl (decide (x = .non))) H) fIs := by
  intro B σ H F env ts vs dx dy vx vy Sx Sy d Q R h1 h2 e k
  cases dy with
  | non =>
    have e' : (if isUn dx then none else some (D.bl (isNone dx))) = some d := e
    split at e'
    · cases e'
    · cases e'
      unfold Rp at h2
      exact ⟨h2.1, by rw [h1.isNon]; exact k _ H F (R.push0 (Tm.of rp_bl))⟩
  | _ => cases dx <;> cases e
theorem os_isN : OpS K mg (fun x y H Q => y = .non ∧ Q (.bl (!decide (x = .non))) H) fIsN := by
  intro B σ H F env ts vs dx dy vx vy Sx Sy d Q R h1 h2 e k
  cases dy with
  | non =>
    have e' : (if isUn dx then none else some (D.bl (!isNone dx))) = some d := e
    split at e'
    · cases e'
    · cases e'
      unfold Rp at h2
      exact ⟨h2.1, by rw [h1.isNon]; exact k _ H F (R.push0 (Tm.of rp_bl))⟩
  | _ => cases dx <;> cases e

/-! ### built-ins -/
def fMin2 : List D → Option D
  | [.int i, .int j] => some (.int (if j < i then j else i))
  | _ => none
def fMax2 : List D → Option D
  | [.int i, .int j] => some (.int (if j > i then j else i))
  | _ => none
theorem cs_int2 {g : Int → Int → Int} {f : List D → Option D} (hf : ∀ ds d, f ds = some d → ∃ i j, ds = [.int i, .int j] ∧ d = .int (g i j)) : CaS K mg (fun xs H Q => ∃ i j, xs = [.int i, .int j] ∧ Q (.int (g i j)) H) f := by
  intro B σ H F env ts vs dx vx d Q R h e k
  obtain ⟨i, j, rfl, rfl⟩ := hf _ _ e
  exact ⟨i, j, h.int2, k _ H F (R.push0 (Tm.of rp_int))⟩
theorem cs_min2 : CaS K mg (fun xs H Q => ∃ i j, xs = [.int i, .int j] ∧ Q (.int (if j < i then j else i)) H) fMin2 := cs_int2 (g := fun i j => if j < i then j else i) fun ds d e => by
  unfold fMin2 at e
  split at e
  · rename_i i j; cases e; exact ⟨i, j, rfl, rfl⟩
  · cases e
theorem cs_max2 : CaS K mg (fun xs H Q => ∃ i j, xs = [.int i, .int j] ∧ Q (.int (if j > i then j else i)) H) fMax2 := cs_int2 (g := fun i j => if j > i then j else i) fun ds d e => by
  unfold fMax2 at e
  split at e
  · rename_i i j; cases e; exact ⟨i, j, rfl, rfl⟩
  · cases e
theorem AllRp.one {F H : Hp} {ws : List V} {d : D} (h : AllRp K mg F H [d] ws) : ∃ v S, ws = [v] ∧ Rp K mg F H d v S := by
  unfold AllRp at h
  obtain ⟨v, r, rfl, ⟨S, rp⟩, h2⟩ := h
  unfold AllRp at h2
  exact ⟨v, S, by rw [h2], rp⟩
def fInt1 : List D → Option D
  | [.int i] => some (.int i)
  | [.bl b] => some (.int (if b then 1 else 0))
  | _ => none
theorem cs_int1 : CaS K mg (fun xs H Q => (∃ i, xs = [.int i] ∧ Q (.int i) H) ∨ ∃ k, xs = [.bl k] ∧ Q (.int (if k then 1 else 0)) H) fInt1 := by
  intro B σ H F env ts vs dx vx d Q R h e k
  unfold fInt1 at e
  split at e
  · rename_i i; cases e; exact .inl ⟨i, h.int1, k _ H F (R.push0 (Tm.of rp_int))⟩
  · rename_i b; cases e
    obtain ⟨v, S, rfl, rp⟩ := h.one
    unfold Rp at rp
    exact .inr ⟨b, by rw [rp.1], k _ H F (R.push0 (Tm.of rp_int))⟩
  · cases e
/-- len of a list, a tuple, the script -/
def fLen : List D → Option D
  | [.lst _ xs] => some (.int xs.length)
  | [.tup xs] => some (.int xs.length)
  | [.scr ns] => some (.int ns.length)
  | _ => none
theorem cs_len : CaS K mg (fun xs H Q => ∃ p ys, xs = [.ref p] ∧ (SqL K H p ys ∨ SqT K H p ys) ∧ Q (.int ys.length) H) fLen := by
  intro B σ H F env ts vs dx vx d Q R h e k
  unfold fLen at e
  split at e
  · cases e
    obtain ⟨v, S, rfl, rp⟩ := h.one
    obtain ⟨a, us, S', rfl, hl, hs⟩ := lst_inv rp R.ex
    exact ⟨a, us, rfl, .inl (Or.inl (Or.inl hs)), by rw [← hl.len]; exact k _ H F (R.push0 (Tm.of rp_int))⟩
  · cases e
    obtain ⟨v, S, rfl, rp⟩ := h.one
    unfold Rp at rp
    obtain ⟨a, us, rfl, hl, hs⟩ := rp
    exact ⟨a, us, rfl, .inr (R.ex.sqT hs), by rw [← hl.len]; exact k _ H F (R.push0 (Tm.of rp_int))⟩
  · rename_i ns; cases e
    obtain ⟨v, S, rfl, rp⟩ := h.one
    unfold Rp at rp
    obtain ⟨_, a, rfl, hs⟩ := rp
    exact ⟨a, ns.map V.int, rfl, .inl (R.ex.sqL hs), by rw [List.length_map]; exact k _ H F (R.push0 (Tm.of rp_int))⟩
  · cases e
/-- list(xs), list(t) -/
def fList : List D → Option D
  | [.lst _ xs] => if frozL xs then some (.lst true xs) else none
  | [.tup xs] => if frozL xs then some (.lst true xs) else none
  | [.scr ns] => some (.lst true (ns.map .int))
  | _ => none
theorem cs_list : CaS K mg (fun xs H Q => ∃ p ys, xs = [.ref p] ∧ (SqL K H p ys ∨ SqT K H p ys) ∧ ∀ l, H l = none → Q (.ref l) (upd H l (.lst ys))) fList := by
  intro B σ H F env ts vs dx vx d Q R h e k
  unfold fList at e
  split at e
  · split at e
    · rename_i hf; cases e
      obtain ⟨v, S, rfl, rp⟩ := h.one
      obtain ⟨a, us, rfl, hl, hs⟩ := lst_inv0 rp R.ex hf
      exact ⟨a, us, rfl, .inl (Or.inl (Or.inl hs)), fun l hl2 => k _ _ _ (R.newLst0 hl hl2)⟩
    · cases e
  · split at e
    · rename_i hf; cases e
      obtain ⟨v, S, rfl, rp⟩ := h.one
      obtain ⟨a, us, rfl, hl, hs, _⟩ := tup_inv0 rp R.ex hf
      exact ⟨a, us, rfl, .inr hs, fun l hl2 => k _ _ _ (R.newLst0 hl hl2)⟩
    · cases e
  · rename_i ns; cases e
    obtain ⟨v, S, rfl, rp⟩ := h.one
    unfold Rp at rp
    obtain ⟨_, a, rfl, hs⟩ := rp
    exact ⟨a, ns.map V.int, rfl, .inl (R.ex.sqL hs), fun l hl2 => k _ _ _ (R.newLst0 (RpL.dints ns) hl2)⟩
  · cases e
/-- tuple(xs), tuple(t) -/
def fTuple : List D → Option D
  | [.lst _ xs] => if frozL xs then some (.tup xs) else none
  | [.tup xs] => if frozL xs then some (.tup xs) else none
  | _ => none
theorem RE.newTup0 {B : Bd} {σ : St} {F H : Hp} {env ts xs : List D} {vs ws : List V} {p : Addr} (R : RE K mg B σ H F env ts vs) (h : RpL K mg F H xs ws []) (hp : H p = none) : RE K mg B σ (upd H p (.tup ws)) (upd F p (.tup ws)) env (ts ++ [.tup xs]) (vs ++ [.ref p]) := by
  refine (R.newF (o := .tup ws) hp).push0 (Tm.of ?_)
  unfold Rp
  exact ⟨p, ws, rfl, h.stay (Ex.new (R.ex.none hp)) fun a ha => absurd ha List.not_mem_nil, Or.inl (Or.inl upd_same)⟩
theorem cs_tuple : CaS K mg (fun xs H Q => ∃ p ys, xs = [.ref p] ∧ ((SqL K H p ys ∧ ∀ l, H l = none → Q (.ref l) (upd H l (.tup ys))) ∨ (SqT K H p ys ∧ Q (.ref p) H))) fTuple := by
  intro B σ H F env ts vs dx vx d Q R h e k
  unfold fTuple at e
  split at e
  · split at e
    · rename_i hf; cases e
      obtain ⟨v, S, rfl, rp⟩ := h.one
      obtain ⟨a, us, rfl, hl, hs⟩ := lst_inv0 rp R.ex hf
      exact ⟨a, us, rfl, .inl ⟨Or.inl (Or.inl hs), fun l hl2 => k _ _ _ (R.newTup0 hl hl2)⟩⟩
    · cases e
  · split at e
    · rename_i hf; cases e
      obtain ⟨v, S, rfl, rp⟩ := h.one
      obtain ⟨a, us, rfl, hl, hs, r0⟩ := tup_inv0 rp R.ex hf
      exact ⟨a, us, rfl, .inr ⟨hs, k _ H F (R.push0 (Tm.of r0))⟩⟩
    · cases e
  · cases e
/-- lists of ints -/
def asInts : List D → Option (List Int)
  | [] => some []
  | .int i :: ds => (asInts ds).map (i :: ·)
  | _ => none
theorem asInts_map : ∀ ns : List Int, asInts (ns.map .int) = some ns
  | [] => rfl
  | n :: ns => by rw [List.map_cons]; unfold asInts; rw [asInts_map ns]; rfl
theorem asInts_inv : ∀ {ds : List D} {ns : List Int}, asInts ds = some ns → ds = ns.map .int
  | [], _, h => by unfold asInts at h; cases h; rfl
  | d :: ds, ns, h => by
    cases d with
    | int i =>
      unfold asInts at h
      cases q : asInts ds with
      | none => rw [q] at h; cases h
      | some ms => rw [q] at h; cases h; rw [asInts_inv q]; rfl
    | _ => unfold asInts at h; cases h
theorem frozL_ints : ∀ ns : List Int, frozL (ns.map .int) = true
  | [] => rfl
  | n :: ns => by rw [List.map_cons]; unfold frozL; rw [frozL_ints ns]; rfl
theorem RpL.ofInts {F H : Hp} : ∀ {ns : List Int} {vs : List V} {S : List Addr}, RpL K mg F H (ns.map .int) vs S → vs = ns.map V.int
  | [], _, _, h => by unfold RpL at h; exact h.1
  | n :: ns, _, _, h => by
    rw [List.map_cons] at h
    unfold RpL at h
    obtain ⟨v, r, S1, S2, rfl, rfl, h1, h2⟩ := h
    unfold Rp at h1
    rw [h1.1, h2.ofInts]
    rfl
theorem RpL.ints {F H : Hp} : ∀ ns : List Int, RpL K mg F H (ns.map .int) (ns.map V.int) []
  | [] => by unfold RpL; exact ⟨rfl, rfl⟩
  | n :: ns => by
    rw [List.map_cons, List.map_cons]
    unfold RpL
    exact ⟨_, _, [], [], rfl, rfl, rp_int, RpL.ints ns⟩
def fSumL : List D → Option D
  | [.lst _ xs] => (asInts xs).map fun ns => .int ns.sum
  | _ => none
theorem cs_sum : CaS K mg (rSum K) fSumL := by
  intro B σ H F env ts vs dx vx d Q R h e k
  unfold fSumL at e
  split at e
  · rename_i o xs
    cases q : asInts xs with
    | none => rw [q] at e; cases e
    | some ns =>
      rw [q] at e
      cases e
      obtain ⟨v, S, rfl, rp⟩ := h.one
      rw [asInts_inv q] at rp
      obtain ⟨a, us, S', rfl, hl, hs⟩ := lst_inv rp R.ex
      rw [hl.ofInts] at hs
      exact ⟨a, ns, rfl, Or.inl (Or.inl hs), k _ H F (R.push0 (Tm.of rp_int))⟩
  · cases e
/-- sorted(xs) of ints -/
def fSorted : List D → Option D
  | [.lst _ xs] => (asInts xs).map fun ns => .lst true ((ns.mergeSort (· ≤ ·)).map .int)
  | _ => none
theorem cs_sorted : CaS K mg (rSortedI K) fSorted := by
  intro B σ H F env ts vs dx vx d Q R h e k
  unfold fSorted at e
  split at e
  · rename_i o xs
    cases q : asInts xs with
    | none => rw [q] at e; cases e
    | some ns =>
      rw [q] at e
      cases e
      obtain ⟨v, S, rfl, rp⟩ := h.one
      rw [asInts_inv q] at rp
      obtain ⟨a, us, S', rfl, hl, hs⟩ := lst_inv rp R.ex
      rw [hl.ofInts] at hs
      refine ⟨a, ns, rfl, Or.inl (Or.inl hs), fun ns' p hp hw hn => ?_⟩
      have e2 : ns' = ns.mergeSort (· ≤ ·) := by
        have p2 : ns'.Perm (ns.mergeSort (· ≤ ·)) := hp.trans (List.mergeSort_perm ns _).symm
        have w2 : (ns.mergeSort (· ≤ ·)).Pairwise (fun a b => decide (a ≤ b) = true) := List.pairwise_mergeSort (fun a b c h1 h2 => by simp only [decide_eq_true_eq] at *; omega) (fun a b => by simp only [Bool.or_eq_true, decide_eq_true_eq]; omega) ns
        exact p2.eq_of_pairwise (le := fun a b => a ≤ b) (fun a b _ _ h1 h2 => by omega) hw (w2.imp fun h => by simpa using h)
      rw [e2]
      exact k _ _ _ (R.newLst0 (RpL.ints _) hn)
  · cases e
/-! ### items -/
def fIx : D → D → Option D
  | .lst _ xs, .int i => (atI xs i).bind fun d => if froz d then some d else none
  | .tup xs, .int i => (atI xs i).bind fun d => if froz d then some d else none
  | _, _ => none
theorem atI_rp {F H : Hp} {xs : List D} {vs : List V} {S : List Addr} {i : Int} {d : D} (h : RpL K mg F H xs vs S) (e : atI xs i = some d) (hf : froz d = true) : ∃ v, atI vs i = some v ∧ Rp K mg F H d v [] := by
  unfold atI at e ⊢
  rw [← h.len]
  cases q : ixN xs.length i with
  | none => rw [q] at e; cases e
  | some j =>
    rw [q] at e
    have e' : xs[j]? = some d := e
    have key : ∀ {xs : List D} {vs : List V} {S : List Addr} {j : Nat}, RpL K mg F H xs vs S → xs[j]? = some d → ∃ v T, vs[j]? = some v ∧ Rp K mg F H d v T := by
      intro xs
      induction xs with
      | nil => intro vs S j _ e; simp at e
      | cons x xs ih =>
        intro vs S j h e
        unfold RpL at h
        obtain ⟨v, r, S1, S2, rfl, rfl, h1, h2⟩ := h
        cases j with
        | zero => cases e; exact ⟨v, S1, rfl, h1⟩
        | succ j =>
          obtain ⟨v', T, e1, e2⟩ := ih (vs := r) (S := S2) (j := j) h2 (by rw [List.getElem?_cons_succ] at e; exact e)
          exact ⟨v', T, by rw [List.getElem?_cons_succ]; exact e1, e2⟩
    obtain ⟨v, T, ev, rp⟩ := key h e'
    have e0 := rp.froz hf
    subst e0
    exact ⟨v, ev, rp⟩
theorem os_ix : OpS K mg (rIx K) fIx := by
  intro B σ H F env ts vs dx dy vx vy Sx Sy d Q R h1 h2 e k
  have fin : ∀ {xs : List D} {i : Int}, ((atI xs i).bind fun d => if froz d then some d else none) = some d → atI xs i = some d ∧ froz d = true := fun {xs i} z => by
    cases q : atI xs i with
    | none => rw [q] at z; cases z
    | some x =>
      rw [q] at z
      have z' : (if froz x then some x else none) = some d := z
      split at z'
      · rename_i hf; cases z'; exact ⟨rfl, hf⟩
      · cases z'
  cases dx with
  | lst o xs =>
    cases dy with
    | int i =>
      obtain ⟨e1, hf⟩ := fin e
      unfold Rp at h2
      obtain ⟨a, us, S', rfl, hl, hs⟩ := lst_inv h1 R.ex
      obtain ⟨v, ev, rp⟩ := atI_rp hl e1 hf
      exact .inl ⟨a, us, i, v, rfl, h2.1, Or.inl (Or.inl hs), ev, k _ H F (R.push0 (Tm.of rp))⟩
    | _ => cases e
  | tup xs =>
    cases dy with
    | int i =>
      obtain ⟨e1, hf⟩ := fin e
      unfold Rp at h1 h2
      obtain ⟨a, us, rfl, hl, hs⟩ := h1
      obtain ⟨v, ev, rp⟩ := atI_rp hl e1 hf
      exact .inr (.inl ⟨a, us, i, v, rfl, h2.1, R.ex.sqT hs, ev, k _ H F (R.push0 (Tm.of rp))⟩)
    | _ => cases e
  | _ => cases e
end
end DL
set_option Elab.async false
set_option linter.all false
set_option maxRecDepth 100000
set_option maxHeartbeats 2000000
/-! DLh: comprehensions. -/
namespace DL
open PySem L2

/-- the slots of a comprehension's own names are forgotten -/
def wipeE (env : List D) : List Nat → List D
  | [] => env
  | v :: vs => (wipeE env vs).set v .un
def deAl (ts : List D) : List D := ts.map fun d => if isSl d then .non else d
def deAlV : List D → List V → List V
  | d :: ds, v :: vs => (if isSl d then .non else v) :: deAlV ds vs
  | _, _ => []
theorem deAlV_len : ∀ {ts : List D} {vs : List V}, ts.length = vs.length → (deAlV ts vs).length = ts.length
  | [], [], _ => rfl
  | _ :: ts, _ :: vs, h => by
    unfold deAlV
    rw [List.length_cons, List.length_cons, deAlV_len (by simpa using h)]
  | [], _ :: _, h => by cases h
  | _ :: _, [], h => by cases h
theorem deAlV_get : ∀ {ts : List D} {vs : List V} {k : Nat} {d : D} {v : V}, ts[k]? = some d → vs[k]? = some v → (deAlV ts vs)[k]? = some (if isSl d then .non else v)
  | [], _, _, _, _, h, _ => by simp at h
  | _ :: _, [], _, _, _, _, h => by simp at h
  | d :: ds, v :: vs, k, d', v', h1, h2 => by
    cases k with
    | zero => cases h1; cases h2; rfl
    | succ k => exact deAlV_get (ts := ds) (vs := vs) (k := k) h1 h2
theorem noAl_deAl (ts : List D) : noAl (deAl ts) := fun d hd i z => by
  unfold deAl at hd
  obtain ⟨x, _, rfl⟩ := List.mem_map.mp hd
  split at z
  · cases z
  · rename_i h; rw [z] at h; exact h rfl
section
variable {K : PySem.W.Frag} {mg : Str → Option Value} {B : Bd} {σ σ2 : St} {F F' H H' : Hp} {env env2 ts us : List D} {vs ws : List V}
abbrev noPin (B : Bd) : Bd := { B with pins := [] }
theorem RE.wipe {B : Bd} (hb : B.pins = []) (na : noAl ts) (R : RE K mg B σ H F env ts vs) : ∀ own : List Nat, RE K mg B (L2.wipe σ own) H F (wipeE env own) ts vs
  | [] => R
  | i :: own => by
    obtain ⟨ow, r⟩ := RE.wipe hb na R own
    have r1 := r.unslot i
    refine ⟨_, r1.resig (i := i) (x := none) ?_ (fun p hp => by rw [hb] at hp; exact absurd hp List.not_mem_nil) na⟩
    by_cases hi : i < (wipeE env own).length
    · exact .inr (by rw [List.getElem?_set_self hi])
    · exact .inl (by rw [List.getElem?_eq_none]; simp only [List.length_set]; omega)
theorem RE.enter (R : RE K mg B σ H F env ts vs) (own : List Nat) : RE K mg (noPin B) (L2.wipe σ own) H F (wipeE env own) (deAl ts) (deAlV ts vs) := by
  obtain ⟨ow, r⟩ := R
  have dl : (deAl ts).length = ts.length := by unfold deAl; rw [List.length_map]
  refine RE.wipe (B := noPin B) rfl (noAl_deAl ts) ⟨ow, r.len, by rw [dl, deAlV_len r.tlen], r.slot, r.sun, fun k d v e1 e2 => ?_, fun k hk => r.tun k (by rw [dl] at hk; exact hk), r.uniq, r.nod, r.fno, r.ex, r.fr, fun p (hp : p ∈ []) => absurd hp List.not_mem_nil⟩ own
  have hk : k < ts.length := by have := (List.getElem?_eq_some_iff.mp e1).1; rw [dl] at this; exact this
  have hv : k < vs.length := by rw [← r.tlen]; exact hk
  have t1 := r.temp k ts[k] vs[k] (by simp [hk]) (by simp [hv])
  rw [deAlV_get (d := ts[k]) (v := vs[k]) (by simp [hk]) (by simp [hv])] at e2
  cases e2
  unfold deAl at e1
  rw [List.getElem?_map, List.getElem?_eq_getElem hk] at e1
  cases e1
  cases hs : isSl ts[k] with
  | true =>
    rw [if_pos rfl]
    show Tm K mg F H σ (if isSl ts[k] then .non else ts[k]) _ _
    rw [hs, if_pos rfl]
    refine Tm.of ?_
    cases hd : ts[k] with
    | sl i => rw [hd] at t1; rw [t1.2]; exact rp_non
    | _ => rw [hd] at hs; cases hs
  | false =>
    rw [if_neg Bool.false_ne_true]
    show Tm K mg F H σ (if isSl ts[k] then .non else ts[k]) _ _
    rw [hs, if_neg Bool.false_ne_true]
    exact Tm.of (t1.rp fun i z => by rw [z] at hs; cases hs)
theorem wipe_out : ∀ {own : List Nat} {j : Nat}, j ∉ own → (L2.wipe σ own)[j]? = σ[j]?
  | [], _, _ => rfl
  | i :: own, j, h => by
    show ((L2.wipe σ own).set i none)[j]? = _
    rw [List.getElem?_set_ne fun z => h (by rw [z]; exact List.mem_cons_self)]
    exact wipe_out fun z => h (List.mem_cons_of_mem _ z)
theorem wipeE_out : ∀ {own : List Nat} {j : Nat}, j ∉ own → (wipeE env own)[j]? = env[j]?
  | [], _, _ => rfl
  | i :: own, j, h => by
    show ((wipeE env own).set i .un)[j]? = _
    rw [List.getElem?_set_ne fun z => h (by rw [z]; exact List.mem_cons_self)]
    exact wipeE_out fun z => h (List.mem_cons_of_mem _ z)
theorem wipeE_len : ∀ own : List Nat, (wipeE env own).length = env.length
  | [] => rfl
  | i :: own => by
    show ((wipeE env own).set i .un).length = _
    rw [List.length_set, wipeE_len own]
theorem wipeE_in : ∀ {own : List Nat} {j : Nat}, j ∈ own → (wipeE env own)[j]? = none ∨ (wipeE env own)[j]? = some .un
  | [], _, h => absurd h List.not_mem_nil
  | i :: own, j, h => by
    show ((wipeE env own).set i .un)[j]? = none ∨ ((wipeE env own).set i .un)[j]? = some .un
    by_cases e : j = i
    · subst e
      by_cases hl : j < (wipeE env own).length
      · right; rw [List.getElem?_set_self hl]
      · left; rw [List.getElem?_eq_none]; simp only [List.length_set]; omega
    · rw [List.getElem?_set_ne (Ne.symm e)]
      exact wipeE_in ((List.mem_cons.mp h).resolve_left e)
theorem wipe_same {own : List Nat} (h : SameS own σ σ2) : L2.wipe σ2 own = L2.wipe σ own := by
  apply List.ext_getElem?
  intro j
  by_cases hj : j ∈ own
  · have key : ∀ (σ : St) {own : List Nat}, j ∈ own → (L2.wipe σ own)[j]? = if j < σ.length then some none else none := by
      intro σ own
      induction own with
      | nil => intro h; exact absurd h List.not_mem_nil
      | cons i own ih =>
        intro h
        show ((L2.wipe σ own).set i none)[j]? = _
        by_cases e : j = i
        · subst e
          by_cases hl : j < σ.length
          · rw [List.getElem?_set_self (by rw [wipe_length]; exact hl), if_pos hl]
          · rw [if_neg hl, List.getElem?_eq_none]
            simp only [List.length_set, wipe_length]
            omega
        · rw [List.getElem?_set_ne (Ne.symm e)]
          exact ih ((List.mem_cons.mp h).resolve_left e)
    rw [key σ2 hj, key σ hj, h.1]
  · rw [wipe_out hj, wipe_out hj]
    exact h.2 j hj
theorem SameS.sub {T own : List Nat} (h : SameS T σ σ2) (hs : ∀ i ∈ T, i ∈ own) : SameS own σ σ2 := ⟨h.1, fun j hj => h.2 j fun z => hj (hs j z)⟩
theorem wipe_wipe (own : List Nat) : L2.wipe (L2.wipe σ own) own = L2.wipe σ own := wipe_same ⟨wipe_length _ _, fun j hj => wipe_out hj⟩
/-- behind a comprehension -/
theorem RE.leave {own : List Nat} (R0 : RE K mg B σ H F env ts vs) (R1 : RE K mg (noPin B) (L2.wipe σ own) H' F' env2 (deAl ts ++ us) (deAlV ts vs ++ ws)) (hl : us.length = ws.length) (na : noAl us) : RE K mg B σ H' F' (wipeE env2 own) (ts ++ us) (vs ++ ws) := by
  have hle : ∀ own : List Nat, (L2.wipe σ own).length = σ.length := fun own => wipe_length σ own
  obtain ⟨ow0, r0⟩ := R0
  obtain ⟨ow, r⟩ := RE.wipe rfl (fun d hd => (List.mem_append.mp hd).elim (noAl_deAl ts d) (na d)) R1 own
  rw [wipe_wipe] at r
  have dl : (deAl ts).length = ts.length := by unfold deAl; rw [List.length_map]
  have vl : (deAlV ts vs).length = vs.length := by rw [deAlV_len r0.tlen, r0.tlen]
  refine ⟨ow, by rw [r.len, hle], by simp only [List.length_append, r0.tlen, hl], fun i d e1 e2 => ?_, r.sun, fun k d v e1 e2 => ?_, fun k hk => r.tun k (by rw [List.length_append, dl]; rw [List.length_append] at hk; exact hk), r.uniq, r.nod, r.fno, r.ex, r.fr, r0.pin⟩
  · obtain ⟨v, e3, rp⟩ := r.slot i d e1 e2
    have hi : i ∉ own := fun z => by
      rcases wipeE_in (env := env2) z with y | y
      · rw [y] at e1; cases e1
      · rw [y] at e1; cases e1; exact e2 rfl
    rw [wipe_out hi] at e3
    exact ⟨v, e3, rp⟩
  · by_cases hk : k < ts.length
    · have hv : k < vs.length := by rw [← r0.tlen]; exact hk
      rw [List.getElem?_append_left hk] at e1
      rw [List.getElem?_append_left hv] at e2
      have t0 := r0.temp k d v e1 e2
      have t1 := r.temp k (if isSl d then .non else d) (if isSl d then .non else v) (by
        rw [List.getElem?_append_left (by rw [dl]; exact hk)]
        unfold deAl
        rw [List.getElem?_map, e1]; rfl) (by
        rw [List.getElem?_append_left (by rw [vl]; exact hv)]
        exact deAlV_get e1 e2)
      cases hs : isSl d with
      | true =>
        rw [hs, if_pos rfl, if_pos rfl] at t1
        have t1' : Rp K mg F' H' .non .non (ow (.t k)) := t1
        unfold Rp at t1'
        cases d with
        | sl i => exact ⟨t0.1, t1'.2⟩
        | _ => cases hs
      | false =>
        rw [hs, if_neg Bool.false_ne_true, if_neg Bool.false_ne_true] at t1
        exact Tm.of (t1.rp fun i z => by rw [z] at hs; cases hs)
    · rw [List.getElem?_append_right (by omega)] at e1
      rw [List.getElem?_append_right (by rw [← r0.tlen]; omega)] at e2
      have t1 := r.temp k d v (by rw [List.getElem?_append_right (by rw [dl]; omega), dl]; exact e1) (by rw [List.getElem?_append_right (by rw [vl, ← r0.tlen]; omega), vl]; exact e2)
      exact Tm.of (t1.rp (na d (List.mem_of_getElem? e1)))

/-- an item goes onto a list that is the last but one temporary -/
theorem RE.appendT {xs : List D} {d : D} {v : V} {p : Addr} (R : RE K mg B σ H F env (ts ++ [.lst true xs, d]) (vs ++ [.ref p, v])) (hd : ∀ i, d ≠ .sl i) : ∃ ws, H p = some (.lst ws) ∧ ws.length = xs.length ∧ RE K mg B σ (upd H p (.lst (ws ++ [v]))) F env (ts ++ [.lst true (xs ++ [d])]) (vs ++ [.ref p]) := by
  have R' : RE K mg B σ H F env ((ts ++ [.lst true xs]) ++ [d]) ((vs ++ [.ref p]) ++ [v]) := by rw [List.append_assoc, List.append_assoc]; exact R
  obtain ⟨ow, r⟩ := R'
  obtain ⟨ow1, S1, r1, rp1, nd1, hn1, _, sb1, in1⟩ := r.take1 hd
  obtain ⟨ow2, S2, r2, rp2, nd2, hn2, _, sb2, in2⟩ := r1.take1 (d := .lst true xs) (fun i z => by cases z)
  have rp2' := rp2
  unfold Rp at rp2'
  obtain ⟨a, ws, S', e, rl, ho⟩ := rp2'
  cases e
  rw [if_pos rfl] at ho
  obtain ⟨hp, rfl⟩ := ho
  obtain ⟨np, nd3⟩ := List.nodup_cons.mp nd2
  have pn : ∀ a ∈ S1, a ≠ p := fun a ha z => by
    subst z
    obtain ⟨o, ho⟩ := in2 a List.mem_cons_self
    exact (hn1 a ha).1 o ho
  have hpp := hn2 p List.mem_cons_self
  refine ⟨ws, hp, rl.len.symm, ?_⟩
  have r3 : REw K mg B σ (upd H p (.lst (ws ++ [v]))) F env ts vs ow2 := by
    refine r2.grow (Ex.refl F) (fun o a ha => upd_ne fun z => hpp.1 o (by rw [← z]; exact ha)) r2.fno (fun a u hu => ?_) fun a ha => ⟨upd_ne fun z => hpp.2.2 (by rw [← z]; exact ha), rfl⟩
    rw [upd_ne fun z => by rw [z, hpp.2.1] at hu; cases hu]
    exact r2.ex a u hu
  have rl2 := rl.stay (Ex.refl F) (H' := upd H p (.lst (ws ++ [v]))) fun a ha => upd_ne fun z => np (by rw [← z]; exact ha)
  have rd2 := rp1.stay (Ex.refl F) (H' := upd H p (.lst (ws ++ [v]))) fun a ha => upd_ne (pn a ha)
  have one : RpL K mg F (upd H p (.lst (ws ++ [v]))) [d] [v] S1 := by
    unfold RpL
    exact ⟨v, [], S1, [], rfl, (List.append_nil _).symm, rd2, by unfold RpL; exact ⟨rfl, rfl⟩⟩
  have dis : ∀ a ∈ S', ∀ b ∈ S1, a ≠ b := fun a ha b hb z => by
    subst z
    obtain ⟨o, ho⟩ := in2 a (List.mem_cons_of_mem _ ha)
    exact (hn1 a hb).1 o ho
  refine ⟨_, r3.push (d := .lst true (xs ++ [d])) (v := .ref p) (S := p :: (S' ++ S1)) (Tm.of ?_) (fun a ha => ?_) (List.nodup_cons.mpr ⟨fun z => ?_, List.nodup_append.mpr ⟨nd3, nd1, dis⟩⟩)⟩
  · unfold Rp
    exact ⟨p, ws ++ [v], S' ++ S1, rfl, rl2.append one, by rw [if_pos rfl]; exact ⟨upd_same, rfl⟩⟩
  · rcases List.mem_cons.mp ha with z | ha
    · rw [z]; exact hpp
    · rcases List.mem_append.mp ha with ha | ha
      · exact hn2 a (List.mem_cons_of_mem _ ha)
      · exact ⟨fun o z => (hn1 a ha).1 o (sb2 o a z), (hn1 a ha).2⟩
  · rcases List.mem_append.mp z with z | z
    · exact np z
    · exact pn p z rfl
end

/-! ### [elt for target in iter if ..] -/
def compD (own : List Nat) (tg : D → List D → Option (List D)) (test : Dn Bool) (elt : Dn D) : List D → List D → Dn (List D)
  | [], acc, env => .ok acc env
  | x :: xs, acc, env => match tg x env with
    | none => .no
    | some e1 => match test e1 with
      | .ok true e2 => (match dU elt e2 with
        | .ok y e3 => if acc.length < sizeLine then compD own tg test elt xs (acc ++ [y]) (wipeE e3 own) else .no
        | _ => .no)
      | .ok false e2 => compD own tg test elt xs acc (wipeE e2 own)
      | _ => .no
def dLc (own : List Nat) (it : Dn (List D × List D)) (tg : D → List D → Option (List D)) (test : Dn Bool) (elt : Dn D) : Dn D := it.bind fun xs env => match compD own tg test elt xs.2 [] (wipeE env own) with
  | .ok acc e2 => .ok (.lst true acc) (wipeE e2 own)
  | _ => .no
abbrev WF : WX := fun _ _ _ _ => False
abbrev GTs (X : Cx) (W : WX) (ifs : List Expr) (den : Dn Bool) : Prop := PTs X ifs (rdT X.K X.mg W den)
@[simp] def dYes : Dn Bool := fun env => .ok true env
theorem PTs.imp {X : Cx} {e : List Expr} {t t' : TT} (h : PTs X e t) (k : ∀ σ H Q, t' σ H Q → t σ H Q) : PTs X e t' := ⟨fun pins s σ H Q I q => h.run pins s σ H Q I (k σ H Q q)⟩
theorem gts_nil {X : Cx} {W : WX} : GTs X W [] dYes := PTs.imp pts_nil fun σ H Q ⟨B, F, env, ts, vs, R, q⟩ => q H F R
theorem gts_one {X : Cx} {W : WX} {c : Expr} {dt : Dn Bool} (h : GT X W c dt) : GTs X W [c] dt := pts_one h
section
variable {X : Cx} {W : WX} {elt tg iter : Expr} {ifs : List Expr} {scope : Scope} {own : List (Str × Nat)} {T : List Nat} {pos : Pos} {it : Dn (List D × List D)} {g : D → List D → Option (List D)} {dt : Dn Bool} {de : Dn D}
theorem dLc_sl {vs0 : List Nat} {env : List D} {d : D} {e : List D} (z : dLc vs0 it g dt de env = .ok d e) : isSl d = false := by
  unfold dLc Dn.bind at z
  cases h1 : it env with
  | ok xs e1 =>
    rw [h1] at z
    have z' : (match compD vs0 g dt de xs.2 [] (wipeE e1 vs0) with | .ok acc e2 => (Res.ok (D.lst true acc) (wipeE e2 vs0) : Res D) | _ => .no) = .ok d e := z
    cases h2 : compD vs0 g dt de xs.2 [] (wipeE e1 vs0) with
    | ok acc e2 => rw [h2] at z'; cases z'; rfl
    | er _ _ _ _ => rw [h2] at z'; cases z'
    | no => rw [h2] at z'; cases z'
  | er _ _ _ _ => rw [h1] at z; cases z
  | no => rw [h1] at z; cases z
theorem lc_imp {vs0 : List Nat} {dg : Nat} (hT : ∀ i ∈ T, i ∈ vs0) {σ : St} {H : Hp} {Q : VK} (h : rdE X.K X.mg W (dLc vs0 it g dt de) σ H Q) :
    tLc (rdI X.K X.mg W it) (rdG X.K X.mg [] T g) (rdT X.K X.mg WF dt) (rdEU X.K X.mg WF (dU de)) vs0 σ H Q := by
  obtain ⟨B, F, env, ts, vs, R, q⟩ := h
  refine ⟨B, F, env, ts, vs, R, (ResP.bind q).mono (fun xs e1 q1 J ws H1 F1 hl n1 n2 R1 ⟨Kp, hK, IT⟩ L hL => ?_) fun _ _ _ _ z => z⟩
  obtain ⟨R1, hk⟩ := R1.keep Kp hK
  replace q1 := q1.mono (k' := fun d e => ∀ v H' F', RE X.K X.mg (keepB B Kp H1 F1) σ H' F' e (ts ++ [d]) (vs ++ [v]) → Q v H') (g' := ErrK X.K X.mg W (keepB B Kp H1 F1) σ ts vs) (fun d e z v H' F' R => z v H' F' R.unkeep) fun c ns xs e z cls dx H' F' R => z cls dx H' F' R.unkeep
  clear R q
  revert R1 hk q1
  generalize keepB B Kp H1 F1 = B
  intro R1 hk q1
  have q1' : ResP (match compD vs0 g dt de xs.2 [] (wipeE e1 vs0) with | .ok acc e2 => .ok (.lst true acc) (wipeE e2 vs0) | _ => .no) (fun d e => ∀ v H' F', RE X.K X.mg B σ H' F' e (ts ++ [d]) (vs ++ [v]) → Q v H') (ErrK X.K X.mg W B σ ts vs) := q1
  have R0 := R1.drop hl
  have hts : deAl (ts ++ xs.1) = deAl ts ++ xs.1 := by
    unfold deAl
    rw [List.map_append]
    congr 1
    have : xs.1.map (fun d => if isSl d then D.non else d) = xs.1.map id := List.map_congr_left fun d hd => if_neg fun z => by
      cases d with
      | sl i => exact n1 _ hd i rfl
      | _ => cases z
    rw [this, List.map_id]
  have hvs : ∀ {ts : List D} {vs : List V}, ts.length = vs.length → deAlV (ts ++ xs.1) (vs ++ ws) = deAlV ts vs ++ ws := by
    have base : ∀ {us : List D} {ws : List V}, us.length = ws.length → noAl us → deAlV us ws = ws := by
      intro us
      induction us with
      | nil => intro ws h _; cases ws with
        | nil => rfl
        | cons _ _ => cases h
      | cons u us ih => intro ws h n; cases ws with
        | nil => cases h
        | cons w ws =>
          unfold deAlV
          rw [ih (by simpa using h) fun d hd => n d (List.mem_cons_of_mem _ hd), if_neg fun z => by
            cases hu : u with
            | sl i => exact n u List.mem_cons_self i hu
            | _ => rw [hu] at z; cases z]
    intro ts
    induction ts with
    | nil => intro vs h; cases vs with
      | nil => exact base hl n1
      | cons _ _ => cases h
    | cons t ts ih => intro vs h; cases vs with
      | nil => cases h
      | cons v vs =>
        show _ :: deAlV (ts ++ xs.1) (vs ++ ws) = _ :: (deAlV ts vs ++ ws)
        rw [ih (by simpa using h)]
  have RI := R1.enter vs0
  rw [hts, hvs R0.tlen] at RI
  have RN := RI.newLst0 (xs := []) (ws := []) (by unfold RpL; exact ⟨rfl, rfl⟩) hL
  let Fin : List D → List D → List D → Prop := fun xs2 acc e => match compD vs0 g dt de xs2 acc e with
    | .ok acc e2 => ∀ v H' F', RE X.K X.mg B σ H' F' (wipeE e2 vs0) (ts ++ [.lst true acc]) (vs ++ [v]) → Q v H'
    | _ => False
  have fin0 : Fin xs.2 [] (wipeE e1 vs0) := by
    show (match compD vs0 g dt de xs.2 [] (wipeE e1 vs0) with
      | .ok acc e2 => ∀ v H' F', RE X.K X.mg B σ H' F' (wipeE e2 vs0) (ts ++ [.lst true acc]) (vs ++ [v]) → Q v H'
      | _ => False)
    cases hc : compD vs0 g dt de xs.2 [] (wipeE e1 vs0) with
    | ok acc e2 => rw [hc] at q1'; exact q1'
    | er _ _ _ _ => rw [hc] at q1'; exact q1'
    | no => rw [hc] at q1'; exact q1'
  refine ⟨fun i m H' => m = xs.2.length - i ∧ i ≤ xs.2.length ∧ ∃ F' env' acc, RE X.K X.mg (noPin B) (L2.wipe σ vs0) H' F' env' (deAl ts ++ xs.1 ++ [.lst true acc]) (deAlV ts vs ++ ws ++ [.ref L]) ∧ Fin (xs.2.drop i) acc env', ⟨_, rfl, Nat.zero_le _, F1, _, [], RN, fin0⟩, ?_⟩
  rintro i m H2 ⟨rfl, hi, F2, e2, acc, R2, q2⟩
  by_cases hlt : i < xs.2.length
  · right
    have hx : xs.2[i]? = some xs.2[i] := by simp [hlt]
    obtain ⟨go, yl⟩ := (IT (noPin B) (L2.wipe σ vs0) H2 F2 e2 (deAl ts) [.lst true acc] (deAlV ts vs) [.ref L] i hk rfl R2).1 _ hx
    rw [List.drop_eq_getElem_cons hlt] at q2
    let Nx : Hp → Prop := fun H' => i + 1 ≤ xs.2.length ∧ ∃ F' env' acc, RE X.K X.mg (noPin B) (L2.wipe σ vs0) H' F' env' (deAl ts ++ xs.1 ++ [.lst true acc]) (deAlV ts vs ++ ws ++ [.ref L]) ∧ Fin (xs.2.drop (i + 1)) acc env'
    refine ⟨go, Nx, fun H' z => ⟨xs.2.length - (i + 1), by omega, rfl, z.1, z.2⟩, fun v H3 y => ?_⟩
    obtain ⟨F3, R3⟩ := yl v H3 y
    have nal : noAl (deAl ts ++ xs.1 ++ [.lst true acc]) := fun d hd => (List.mem_append.mp hd).elim (fun z => (List.mem_append.mp z).elim (noAl_deAl ts d) (n1 d)) fun z => by
      rcases List.mem_cons.mp z with z | z
      · rw [z]; intro i q; cases q
      · exact absurd z List.not_mem_nil
    have q2' : (match compD vs0 g dt de (xs.2[i] :: xs.2.drop (i + 1)) acc e2 with
      | .ok acc e2 => ∀ v H' F', RE X.K X.mg B σ H' F' (wipeE e2 vs0) (ts ++ [.lst true acc]) (vs ++ [v]) → Q v H'
      | _ => False) := q2
    unfold compD at q2'
    cases eg : g xs.2[i] e2 with
    | none => rw [eg] at q2'; exact q2'.elim
    | some e3 =>
      rw [eg] at q2'
      dsimp only at q2'
      refine ⟨noPin B, F3, e2, _, _, xs.2[i], e3, rfl, nal, R3, n2 _ (List.getElem_mem hlt), eg, fun σ4 H4 F4 ss R4 => ?_⟩
      have wsame : L2.wipe σ4 vs0 = L2.wipe σ vs0 := by
        have z := wipe_same (ss.sub hT)
        rw [wipe_wipe] at z
        exact z
      refine ⟨wsame, noPin B, F4, e3, _, _, R4, ?_⟩
      cases et : dt e3 with
      | no => rw [et] at q2'; exact q2'.elim
      | er _ _ _ _ => rw [et] at q2'; exact q2'.elim
      | ok b e4 =>
        rw [et] at q2'
        cases b with
        | false =>
          intro H5 F5 R5
          rw [if_neg Bool.false_ne_true]
          have z := RE.wipe (B := noPin B) rfl nal R5 vs0
          rw [wsame] at z
          exact ⟨hlt, F5, _, acc, z, q2'⟩
        | true =>
          intro H5 F5 R5
          rw [if_pos rfl]
          dsimp only at q2'
          refine ⟨noPin B, F5, e4, _, _, R5, ?_⟩
          cases ee : dU de e4 with
          | no => rw [ee] at q2'; exact q2'.elim
          | er _ _ _ _ => rw [ee] at q2'; exact q2'.elim
          | ok y e5 =>
            rw [ee] at q2'
            intro u H6 F6 hu R6
            rw [List.append_assoc _ [D.lst true acc], List.append_assoc _ [V.ref L]] at R6
            obtain ⟨us, hL6, hlen, R7⟩ := R6.appendT hu
            dsimp only at q2'
            by_cases hz : acc.length < sizeLine
            · rw [if_pos hz] at q2'
              refine ⟨us, hL6, by rw [hlen]; exact hz, hlt, F6, _, _, ?_, q2'⟩
              have z := RE.wipe (B := noPin B) rfl (fun d hd => (List.mem_append.mp hd).elim (fun z => nal d (List.mem_append_left _ z)) fun z => by
                rcases List.mem_cons.mp z with z | z
                · rw [z]; intro i q; cases q
                · exact absurd z List.not_mem_nil) R7 vs0
              rw [wsame] at z
              exact z
            · rw [if_neg hz] at q2'; exact q2'.elim
  · left
    have hi2 : i = xs.2.length := by omega
    subst hi2
    refine ⟨(IT (noPin B) (L2.wipe σ vs0) H2 F2 e2 (deAl ts) [.lst true acc] (deAlV ts vs) [.ref L] _ hk rfl R2).2 (Nat.le_refl _), ?_⟩
    rw [List.drop_length] at q2
    have q3 : ∀ v H' F', RE X.K X.mg B σ H' F' (wipeE e2 vs0) (ts ++ [.lst true acc]) (vs ++ [v]) → Q v H' := q2
    exact q3 _ H2 F2 (R0.leave (R2.dropMid hl fun j z => by cases z) rfl fun d hd => by
      rcases List.mem_cons.mp hd with z | z
      · rw [z]; intro i q; cases q
      · exact absurd z List.not_mem_nil)
theorem ge_lc (own : List (Str × Nat)) (hc : X.calm = true) (hN : X.N.Nodup) (hi : GI X W tg iter it) (ok : BlkOk X.N X.env.scope scope own)
    (hg : ∀ (s : Shared) (H : Hp) (C : Addr) (cl : List (Str × Addr)) (fp : List Addr), GG (X.blk s H scope (compEnvC scope cl C X.env) fp) [] T tg g)
    (ht : ∀ (s : Shared) (H : Hp) (C : Addr) (cl : List (Str × Addr)) (fp : List Addr), GTs (X.blk s H scope (compEnvC scope cl C X.env) fp) WF ifs dt)
    (he : ∀ (s : Shared) (H : Hp) (C : Addr) (cl : List (Str × Addr)) (fp : List Addr), GEU (X.blk s H scope (compEnvC scope cl C X.env) fp) WF elt (dU de))
    (hT : ∀ i ∈ T, i ∈ own.map (·.2) := by decide) (hs : ∀ x, foldedSetIterable iter X.env x = pure x := by intro _; rfl) : GE X W (.ListComp elt [⟨tg, iter, ifs, 0⟩] scope pos) (dLc (own.map (·.2)) it g dt de) :=
  PE.imp (pe_lc (te := rdEU X.K X.mg WF (dU de)) (tt := rdT X.K X.mg WF dt) (g := rdG X.K X.mg [] T g) hc hN hi ok hg ht he hs) fun σ H Q h => lc_imp (dg := 0) hT h
/-- name = [..] on one line, the name a local of the frame -/
theorem gs_setLc {P : List Nat} {i : Nat} {y : Str} {py spos : Pos} (own : List (Str × Nat)) (hc : X.calm = true) (hN : X.N.Nodup) (hy : X.N[i]? = some y) (hyl : X.env.scope.names.lookup y = some .local) (hp : P.contains i = false)
    (hsw : swapsWith (.ListComp elt [⟨tg, iter, ifs, 0⟩] scope pos) (some (.Name y py)) spos.line X.env = pure true) (hi : GI X W tg iter it) (ok : BlkOk X.N X.env.scope scope own)
    (hg : ∀ (s : Shared) (H : Hp) (C : Addr) (cl : List (Str × Addr)) (fp : List Addr), GG (X.blk s H scope (compEnvC scope cl C X.env) fp) [] T tg g)
    (ht : ∀ (s : Shared) (H : Hp) (C : Addr) (cl : List (Str × Addr)) (fp : List Addr), GTs (X.blk s H scope (compEnvC scope cl C X.env) fp) WF ifs dt)
    (he : ∀ (s : Shared) (H : Hp) (C : Addr) (cl : List (Str × Addr)) (fp : List Addr), GEU (X.blk s H scope (compEnvC scope cl C X.env) fp) WF elt (dU de))
    (hT : ∀ i ∈ T, i ∈ own.map (·.2) := by decide) (hs : ∀ x, foldedSetIterable iter X.env x = pure x := by intro _; rfl) : GS X W P (.Assign [.Name y py] (.ListComp elt [⟨tg, iter, ifs, 0⟩] scope pos) spos) (nAsg i (dLc (own.map (·.2)) it g dt de)) := by
  refine PS.imp (ps_setLc (te := rdEU X.K X.mg WF (dU de)) (tt := rdT X.K X.mg WF dt) (g := rdG X.K X.mg [] T g) hc hN hy hyl hsw hi ok hg ht he hs) fun Tn σ H ⟨B, F, env, ts, vs, hpp, na, R, q⟩ => ?_
  refine lc_imp (dg := 0) hT ⟨B, F, env, ts, vs, R, ?_⟩
  have hsl := @dLc_sl it g dt de (own.map (·.2))
  unfold nAsg dU Dn.bind at q
  cases h1 : dLc (own.map (·.2)) it g dt de env with
  | no => rw [h1] at q; exact q.elim
  | er c ns xs e1 => rw [h1] at q; exact fun cls dx H' F' R' ee => q cls dx σ H' F' R' ee
  | ok d e1 =>
    have s1 := hsl h1
    rw [h1] at q
    have u1 : dUse d e1 = .ok d e1 := by
      cases d with
      | sl j => cases s1
      | _ => rfl
    have q' : OutP X.K X.mg W B ts vs Tn ((dUse d e1).out fun d e => .nx (e.set i d)) := q
    rw [u1] at q'
    exact fun v H' F' R' => q' _ H' F' (R'.store (pin_ne hpp hp) (fun j z => by rw [z] at s1; cases s1) na)
end
end DL
set_option Elab.async false
set_option linter.all false
set_option maxRecDepth 100000
set_option maxHeartbeats 2000000
/-! DLi: owned things change in their slots: lists, dicts. -/
namespace DL
open PySem L2

section
variable {K : PySem.W.Frag} {mg : Str → Option Value} {B : Bd} {σ : St} {F F' H H' : Hp} {env ts us : List D} {vs ws : List V} {d : D} {v : V} {ow : Own → List Addr}

theorem RpL.split : ∀ {xs ys : List D} {vs : List V} {S : List Addr}, RpL K mg F H (xs ++ ys) vs S → ∃ v1 v2 S1 S2, vs = v1 ++ v2 ∧ S = S1 ++ S2 ∧ RpL K mg F H xs v1 S1 ∧ RpL K mg F H ys v2 S2
  | [], ys, vs, S, h => ⟨[], vs, [], S, rfl, rfl, by unfold RpL; exact ⟨rfl, rfl⟩, h⟩
  | x :: xs, ys, vs, S, h => by
    have h' : RpL K mg F H (x :: (xs ++ ys)) vs S := h
    unfold RpL at h'
    obtain ⟨v, r, S1, S2, rfl, rfl, h1, h2⟩ := h'
    obtain ⟨v1, v2, T1, T2, rfl, rfl, q1, q2⟩ := RpL.split h2
    refine ⟨v :: v1, v2, S1 ++ T1, T2, rfl, (List.append_assoc _ _ _).symm, ?_, q2⟩
    unfold RpL
    exact ⟨v, v1, S1, T1, rfl, rfl, h1, q1⟩
theorem RpL.one (h : Rp K mg F H d v S) : RpL K mg F H [d] [v] S := by
  unfold RpL
  exact ⟨v, [], S, [], rfl, (List.append_nil _).symm, h, by unfold RpL; exact ⟨rfl, rfl⟩⟩
theorem RpL.cons {ds : List D} {r : List V} {S1 S2 : List Addr} (h : Rp K mg F H d v S1) (h2 : RpL K mg F H ds r S2) : RpL K mg F H (d :: ds) (v :: r) (S1 ++ S2) := by
  unfold RpL
  exact ⟨v, r, S1, S2, rfl, rfl, h, h2⟩
theorem RpL.one_inv {ws : List V} {S : List Addr} (h : RpL K mg F H [d] ws S) : ∃ v, ws = [v] ∧ Rp K mg F H d v S := by
  unfold RpL at h
  obtain ⟨v, r, S1, S2, rfl, rfl, h1, h2⟩ := h
  unfold RpL at h2
  obtain ⟨rfl, rfl⟩ := h2
  rw [List.append_nil]
  exact ⟨v, rfl, h1⟩
/-- an item and what stands around it -/
theorem RpL.at {ds : List D} {vs : List V} {S : List Addr} {k : Nat} (h : RpL K mg F H ds vs S) (e : ds[k]? = some d) :
    ∃ v v1 v2 S1 S2 S3, vs = v1 ++ v :: v2 ∧ v1.length = k ∧ S = S1 ++ (S2 ++ S3) ∧ RpL K mg F H (ds.take k) v1 S1 ∧ Rp K mg F H d v S2 ∧ RpL K mg F H (ds.drop (k + 1)) v2 S3 := by
  obtain ⟨hk, e'⟩ := List.getElem?_eq_some_iff.mp e
  have ed : ds = ds.take k ++ d :: ds.drop (k + 1) := by
    rw [← e', List.getElem_cons_drop, List.take_append_drop]
  rw [ed] at h
  obtain ⟨v1, v2, S1, S2, rfl, rfl, h1, h2⟩ := h.split
  unfold RpL at h2
  obtain ⟨v, r, T1, T2, rfl, rfl, q1, q2⟩ := h2
  have hl := h1.len
  rw [List.length_take] at hl
  have e3 : min k ds.length = k := by omega
  exact ⟨v, v1, r, S1, T1, T2, rfl, by rw [← hl, e3], rfl, h1, q1, q2⟩
theorem set_mid {α : Type} {v1 v2 : List α} {v u : α} {k : Nat} (h : v1.length = k) : (v1 ++ v :: v2).set k u = v1 ++ u :: v2 := by
  subst h
  simp
theorem get_mid {α : Type} {v1 v2 : List α} {v : α} {k : Nat} (h : v1.length = k) : (v1 ++ v :: v2)[k]? = some v := by
  subst h
  simp
theorem erase_mid {α : Type} {v1 v2 : List α} {v : α} {k : Nat} (h : v1.length = k) : (v1 ++ v :: v2).eraseIdx k = v1 ++ v2 := by
  subst h
  simp [List.eraseIdx_append_of_length_le]
theorem set_split {ds : List D} {k : Nat} {u : D} (h : k < ds.length) : ds.set k u = ds.take k ++ u :: ds.drop (k + 1) := by
  rw [List.set_eq_take_append_cons_drop, if_pos h]
theorem erase_split {ds : List D} {k : Nat} : ds.eraseIdx k = ds.take k ++ ds.drop (k + 1) := List.eraseIdx_eq_take_drop_succ ds k

/-- several temporaries are pushed -/
theorem REw.pushes : ∀ {rs : List D} {rvs : List V} {ts : List D} {vs : List V} {ow : Own → List Addr} {T : List Addr}, REw K mg B σ H F env ts vs ow → RpL K mg F H rs rvs T → (∀ a ∈ T, (∀ o, a ∉ ow o) ∧ F a = none ∧ ¬ B.out a) → T.Nodup → RE K mg B σ H F env (ts ++ rs) (vs ++ rvs)
  | [], rvs, ts, vs, ow, T, R, h, _, _ => by
    unfold RpL at h
    rw [h.1, List.append_nil, List.append_nil]
    exact ⟨ow, R⟩
  | d :: rs, rvs, ts, vs, ow, T, R, h, hn, nd => by
    unfold RpL at h
    obtain ⟨v, r, S1, S2, rfl, rfl, h1, h2⟩ := h
    obtain ⟨n1, n2, dis⟩ := List.nodup_append.mp nd
    have r1 := R.push (Tm.of h1) (fun a ha => hn a (List.mem_append_left _ ha)) n1
    have z := REw.pushes r1 h2 (fun a ha => ⟨fun o z => ?_, (hn a (List.mem_append_right _ ha)).2⟩) n2
    · rw [List.append_assoc, List.append_assoc] at z
      exact z
    · cases o with
      | s i => exact (hn a (List.mem_append_right _ ha)).1 _ z
      | t j =>
        unfold give at z
        dsimp only at z
        split at z
        · exact dis a z a ha rfl
        · exact (hn a (List.mem_append_right _ ha)).1 _ z

/-- THE CHANGE: what a slot owns is changed at p; arguments go in, results come out -/
theorem RE.mut {i : Nat} (R : RE K mg B σ H F env (ts ++ us) (vs ++ ws)) (hl : us.length = ws.length) (hn : noAl us) (he : env[i]? = some d) (hd : isUn d = false) :
    ∃ v S0 S1, σ[i]? = some (some v) ∧ Rp K mg F H d v S0 ∧ RpL K mg F H us ws S1 ∧ (S0 ++ S1).Nodup ∧
      ∀ (p : Addr) (o : HO) (d' : D) (rs : List D) (rvs : List V) (S' T : List Addr), p ∈ S0 → Rp K mg F (upd H p o) d' v S' → RpL K mg F (upd H p o) rs rvs T → (S' ++ T).Nodup → (∀ a ∈ S' ++ T, a ∈ S0 ++ S1) →
        RE K mg B σ (upd H p o) F (env.set i d') (ts ++ rs) (vs ++ rvs) := by
  obtain ⟨ow, r⟩ := R
  obtain ⟨ow1, S1, r1, rp1, nd1, hn1, es, sb, hin⟩ := r.takes hl hn
  obtain ⟨v, ev, rp0⟩ := r1.slot i d he (isUn_of hd)
  have hi : i < env.length := (List.getElem?_eq_some_iff.mp he).1
  have dis : ∀ a ∈ ow1 (.s i), ∀ b ∈ S1, a ≠ b := fun a ha b hb z => by
    subst z
    exact (hn1 a hb).1 _ ha
  refine ⟨v, ow1 (.s i), S1, ev, rp0, rp1, List.nodup_append.mpr ⟨r1.nod _, nd1, dis⟩, fun p o d' rs rvs S' T hp hd' hrs nd2 sub => ?_⟩
  have r2 := r1.unslot i
  have off : ∀ o a, a ∈ offS ow1 i [] o → a ∈ ow1 o ∧ o ≠ .s i := fun o a z => by
    by_cases q : o = .s i
    · subst q; rw [offS_in] at z; exact absurd z List.not_mem_nil
    · rw [offS_ne q] at z; exact ⟨z, q⟩
  have pn : ∀ o a, a ∈ offS ow1 i [] o → a ≠ p := fun o a z q => by
    subst q
    exact (off o a z).2 (r1.uniq _ _ a (off o a z).1 hp)
  have pf : F p = none := r1.fno _ p hp
  have po : ¬ B.out p := fun z => (r1.fr p z).2.2.2 _ hp
  have r3 : REw K mg B σ (upd H p o) F (env.set i .un) ts vs (offS ow1 i []) := r2.grow (Ex.refl F) (fun o' a ha => upd_ne (pn o' a ha)) r2.fno (fun a u hu => by
    rw [upd_ne fun z => by rw [z, pf] at hu; cases hu]
    exact r2.ex a u hu) fun a ha => ⟨upd_ne fun z => po (by rw [← z]; exact ha), rfl⟩
  have free : ∀ a ∈ S' ++ T, (∀ o, a ∉ offS ow1 i [] o) ∧ F a = none ∧ ¬ B.out a := fun a ha => by
    rcases List.mem_append.mp (sub a ha) with z | z
    · exact ⟨fun o q => (off o a q).2 (r1.uniq _ _ a (off o a q).1 z), r1.fno _ a z, fun q => (r1.fr a q).2.2.2 _ z⟩
    · exact ⟨fun o q => (hn1 a z).1 o (off o a q).1, (hn1 a z).2⟩
  obtain ⟨m1, m2, dis2⟩ := List.nodup_append.mp nd2
  have r4 := r3.putS (i := i) (v := v) (d := d') (S := S') (by simp [hi]) offS_in ev hd' (fun a ha => free a (List.mem_append_left _ ha)) m1
  rw [List.set_set] at r4
  refine r4.pushes hrs (fun a ha => ⟨fun o z => ?_, (free a (List.mem_append_right _ ha)).2⟩) m2
  by_cases q : o = .s i
  · subst q; rw [offS_in] at z; exact dis2 a z a ha rfl
  · rw [offS_ne q] at z; exact (free a (List.mem_append_right _ ha)).1 o z

/-- the value behind an alias -/
theorem RE.alias {i : Nat} (R : RE K mg B σ H F env (ts ++ .sl i :: us) (vs ++ v :: ws)) (hl : us.length = ws.length) : σ[i]? = some (some v) ∧ RE K mg B σ H F env (ts ++ us) (vs ++ ws) := by
  obtain ⟨ow, r⟩ := R
  have tl := r.tlen
  simp only [List.length_append, List.length_cons] at tl
  have hl2 : ts.length = vs.length := by omega
  have tm := r.temp ts.length (.sl i) v (by simp) (by rw [hl2]; simp)
  refine ⟨tm.1, ?_⟩
  -- the alias is dropped from the middle
  have f : ∀ k : Nat, (ts ++ us)[k]? = if k < ts.length then (ts ++ .sl i :: us)[k]? else (ts ++ .sl i :: us)[k + 1]? := fun k => by
    by_cases h : k < ts.length
    · rw [if_pos h, List.getElem?_append_left h, List.getElem?_append_left h]
    · rw [if_neg h, List.getElem?_append_right (by omega), List.getElem?_append_right (by omega)]
      rw [show k + 1 - ts.length = (k - ts.length) + 1 by omega, List.getElem?_cons_succ]
  have g : ∀ k : Nat, (vs ++ ws)[k]? = if k < ts.length then (vs ++ v :: ws)[k]? else (vs ++ v :: ws)[k + 1]? := fun k => by
    by_cases h : k < ts.length
    · rw [if_pos h, List.getElem?_append_left (by omega), List.getElem?_append_left (by omega)]
    · rw [if_neg h, List.getElem?_append_right (by omega), List.getElem?_append_right (by omega)]
      rw [show k + 1 - vs.length = (k - vs.length) + 1 by omega, List.getElem?_cons_succ]
  let ow' : Own → List Addr := fun o => match o with
    | .s i => ow (.s i)
    | .t k => if k < ts.length then ow (.t k) else ow (.t (k + 1))
  have back : ∀ o a, a ∈ ow' o → ∃ o', a ∈ ow o' ∧ (∀ i, o = .s i → o' = .s i) ∧ ∀ k, o = .t k → o' = .t (if k < ts.length then k else k + 1) := fun o a ha => by
    cases o with
    | s j => exact ⟨.s j, ha, fun _ z => z, fun k z => by cases z⟩
    | t k =>
      have ha' : a ∈ (if k < ts.length then ow (.t k) else ow (.t (k + 1))) := ha
      refine ⟨.t (if k < ts.length then k else k + 1), ?_, fun _ z => (by cases z), fun k' z => by cases z; rfl⟩
      by_cases h : k < ts.length
      · rw [if_pos h] at ha' ⊢; exact ha'
      · rw [if_neg h] at ha' ⊢; exact ha'
  refine ⟨ow', r.len, by simp; omega, r.slot, r.sun, fun k d w e1 e2 => ?_, fun k hk => ?_, fun o o' a h1 h2 => ?_, fun o => ?_, fun o a h => ?_, r.ex, fun a ha => ?_, r.pin⟩
  · rw [f] at e1
    rw [g] at e2
    show Tm K mg F H σ d w (if k < ts.length then ow (.t k) else ow (.t (k + 1)))
    by_cases h : k < ts.length
    · rw [if_pos h] at e1 e2 ⊢; exact r.temp k d w e1 e2
    · rw [if_neg h] at e1 e2 ⊢; exact r.temp (k + 1) d w e1 e2
  · simp only [List.length_append] at hk
    show (if k < ts.length then ow (.t k) else ow (.t (k + 1))) = []
    rw [if_neg (by omega)]
    exact r.tun (k + 1) (by simp; omega)
  · obtain ⟨p, q1, q2, q3⟩ := back o a h1
    obtain ⟨p', q1', q2', q3'⟩ := back o' a h2
    have e := r.uniq p p' a q1 q1'
    cases o with
    | s j =>
      have e1 := q2 j rfl
      cases o' with
      | s j' => have e2 := q2' j' rfl; rw [e1, e2] at e; exact e
      | t k' => have e2 := q3' k' rfl; rw [e1, e2] at e; cases e
    | t k =>
      have e1 := q3 k rfl
      cases o' with
      | s j' => have e2 := q2' j' rfl; rw [e1, e2] at e; cases e
      | t k' =>
        have e2 := q3' k' rfl
        rw [e1, e2] at e
        have e4 : (if k < ts.length then k else k + 1) = if k' < ts.length then k' else k' + 1 := Own.t.inj e
        have : k = k' := by
          by_cases h : k < ts.length <;> by_cases h' : k' < ts.length
          · rw [if_pos h, if_pos h'] at e4; exact e4
          · rw [if_pos h, if_neg h'] at e4; omega
          · rw [if_neg h, if_pos h'] at e4; omega
          · rw [if_neg h, if_neg h'] at e4; omega
        rw [this]
  · cases o with
    | s j => exact r.nod _
    | t k =>
      show (if k < ts.length then ow (.t k) else ow (.t (k + 1))).Nodup
      split
      · exact r.nod _
      · exact r.nod _
  · obtain ⟨p, q1, _⟩ := back o a h
    exact r.fno p a q1
  · obtain ⟨h1, h2, h3, h4⟩ := r.fr a ha
    refine ⟨h1, h2, h3, fun o z => ?_⟩
    obtain ⟨p, q1, _⟩ := back o a z
    exact h4 p q1
end

/-! ### d[k] -/
def asKey : D → Option Key
  | .int i => some (.inl i)
  | .str x => some (.inr x)
  | _ => none
theorem asKey_rp {K : PySem.W.Frag} {mg : Str → Option Value} {F H : Hp} {d : D} {v : V} {S : List Addr} {k : Key} (h : Rp K mg F H d v S) (e : asKey d = some k) : v = kV k := by
  cases d with
  | int i => cases e; unfold Rp at h; exact h.1
  | str x => cases e; unfold Rp at h; exact h.1
  | _ => cases e
/-- the place of a key -/
def kIx : List Key → Key → Option Nat
  | [], _ => none
  | j :: ks, k => if j = k then some 0 else (kIx ks k).map (· + 1)
theorem kIx_lt : ∀ {ks : List Key} {k : Key} {i : Nat}, kIx ks k = some i → i < ks.length
  | [], k, i, h => by cases h
  | j :: ks, k, i, h => by
    unfold kIx at h
    by_cases c : j = k
    · rw [if_pos c] at h; cases h; simp
    · rw [if_neg c] at h
      obtain ⟨m, hm, rfl⟩ := Option.map_eq_some_iff.mp h
      have := kIx_lt hm
      simp; omega
theorem valV_kIx : ∀ {ks : List Key} {vs : List V} {k : Key}, ks.length = vs.length → valV (ks.zip vs) k = (kIx ks k).bind fun i => vs[i]?
  | [], vs, k, h => by rw [List.zip_nil_left]; rfl
  | j :: ks, [], k, h => by cases h
  | j :: ks, v :: vs, k, h => by
    rw [List.zip_cons_cons]
    unfold kIx
    by_cases c : j = k
    · rw [if_pos c, valV_pos c]; rfl
    · rw [if_neg c, valV_neg c, valV_kIx (by simpa using h), Option.bind_map]
      cases kIx ks k <;> rfl
theorem putK_kIx : ∀ {ks : List Key} {vs : List V} {k : Key} {i : Nat} {u : V}, ks.length = vs.length → kIx ks k = some i → ks.Nodup → putK (ks.zip vs) k u = ks.zip (vs.set i u)
  | [], vs, k, i, u, h, e, nd => by cases e
  | j :: ks, [], k, i, u, h, e, nd => by cases h
  | j :: ks, v :: vs, k, i, u, h, e, nd => by
    obtain ⟨nj, nd'⟩ := List.nodup_cons.mp nd
    unfold kIx at e
    by_cases c : j = k
    · rw [if_pos c] at e
      cases e
      subst c
      have hm : ∀ {ks : List Key} {vs : List V}, j ∉ ks → (ks.zip vs).map (fun kv => if kv.1 = j then (kv.1, u) else kv) = ks.zip vs := by
        intro ks
        induction ks with
        | nil => intro vs _; rfl
        | cons x ks ih =>
          intro vs hx
          cases vs with
          | nil => rfl
          | cons y vs =>
            rw [List.zip_cons_cons, List.map_cons, ih fun z => hx (List.mem_cons_of_mem _ z), if_neg fun (z : x = j) => hx (by rw [z]; exact List.mem_cons_self)]
      unfold putK
      rw [List.zip_cons_cons, if_pos (by simp), List.map_cons, if_pos rfl, hm nj]
      rfl
    · rw [if_neg c] at e
      obtain ⟨m, hm, rfl⟩ := Option.map_eq_some_iff.mp e
      have ih := putK_kIx (u := u) (by simpa using h) hm nd'
      have an : ((ks.zip vs).any fun kv => decide (kv.1 = k)) = true := by
        rw [valV_any, valV_kIx (by simpa using h), hm]
        have l := kIx_lt hm
        have l2 : m < vs.length := by
          have : ks.length = vs.length := by simpa using h
          omega
        simp [l2]
      unfold putK at ih ⊢
      rw [if_pos an] at ih
      rw [List.zip_cons_cons, if_pos (by rw [List.any_cons, an, Bool.or_true]), List.map_cons, if_neg c, ih]
      rfl
theorem putK_new : ∀ {kvs : List (Key × V)} {k : Key} {u : V}, valV kvs k = none → putK kvs k u = kvs ++ [(k, u)] := fun {kvs k u} h => by
  unfold putK
  rw [if_neg]
  rw [valV_any, h]
  exact Bool.false_ne_true

def fGet : D → D → Option D
  | .dct _ ks xs, k => (asKey k).bind fun k => (kIx ks k).bind fun i => (xs[i]?).bind fun d => if froz d then some d else none
  | _, _ => none
def rGet : R2 := fun x y H Q => ∃ a v, x = .ref a ∧ DGet H a y (some v) ∧ Q v H
section
variable {K : PySem.W.Frag} {mg : Str → Option Value} {B : Bd} {σ : St} {F F' H H' : Hp} {env ts us : List D} {vs ws : List V} {d : D} {v : V} {ow : Own → List Addr}
theorem dct_inv {o : Bool} {ks : List Key} {xs : List D} {S : List Addr} (h : Rp K mg F H (.dct o ks xs) v S) (e : Ex F H) : ∃ a vs S', v = .ref a ∧ ks.length = xs.length ∧ RpL K mg F H xs vs S' ∧ Rd H a (.dK (ks.zip vs)) := by
  unfold Rp at h
  obtain ⟨a, vs, S', rfl, hk, hl, ho⟩ := h
  cases o with
  | true => rw [if_pos rfl] at ho; exact ⟨a, vs, S', rfl, hk, hl, .inl ho.1⟩
  | false => rw [if_neg Bool.false_ne_true] at ho; obtain ⟨⟨od, ho⟩, _⟩ := ho; exact ⟨a, vs, S', rfl, hk, hl, .inr ⟨od, e _ _ ho⟩⟩
theorem os_get : OpS K mg rGet fGet := by
  intro B σ H F env ts vs dx dy vx vy Sx Sy d Q R rx ry e k
  cases dx with
  | dct o ks xs =>
    unfold fGet at e
    obtain ⟨ky, e1, e⟩ := Option.bind_eq_some_iff.mp e
    obtain ⟨i, e2, e⟩ := Option.bind_eq_some_iff.mp e
    obtain ⟨x, e3, e⟩ := Option.bind_eq_some_iff.mp e
    by_cases hf : froz x = true
    · rw [if_pos hf] at e
      cases e
      have ex : Ex F H := let ⟨_, r⟩ := R; r.ex
      obtain ⟨a, us, S', rfl, hk, hl, hr⟩ := dct_inv rx ex
      have ey := asKey_rp ry e1
      subst ey
      obtain ⟨w, v1, v2, T1, T2, T3, rfl, hl1, _, _, hw, _⟩ := hl.at e3
      refine ⟨a, w, rfl, .inl ⟨_, ky, hr, rfl, ?_⟩, ?_⟩
      · rw [valV_kIx (by rw [hk, hl.len]), e2]
        exact (get_mid hl1).symm
      · have e0 := hw.froz hf
        subst e0
        exact k w H F (R.push0 (Tm.of hw))
    · rw [if_neg hf] at e; cases e
  | _ => cases e
end
theorem ge_dget {X : Cx} {W : WX} {o i : Expr} {pos : Pos} {da db : Dn D} (hu : X.A.units + 1 < cLine) (ha : GE X W o da) (hb : GE X W i db) (hs : NoSl i := by intro _ _; rfl) : GE X W (.Subscript o i pos) (dOp fGet da db) :=
  PE.imp (pe_dget hu ha hb hs) fun σ H Q h => op_imp (t := fun _ _ _ => True) (r := rGet) os_get (fun y => rfl) (fun x => by cases x <;> rfl) h

/-! ### d[k] = e -/
/-- the slot's dict changes; keys stand apart -/
def putD (d : D) (k : Key) (u : D) : Option D := match d with
  | .dct true ks xs => match kIx ks k with
    | some i => if decide (ks.Nodup) && decide (ks.length < sizeLine) then some (.dct true ks (xs.set i u)) else none
    | none => if decide (ks.length < sizeLine) then some (.dct true (ks ++ [k]) (xs ++ [u])) else none
  | _ => none
/-- value, then the dict, then the key -/
@[simp] def nDput (a o k : Dn D) : Sn := fun env => (dU a env).out fun u e => (o e).out fun x e => (k e).out fun y e => match x with
  | .sl i => match (asKey (rs e y)).bind fun k => putD (e.getD i .un) k u with
    | some d => .nx (e.set i d)
    | none => .no
  | _ => .no
section
variable {K : PySem.W.Frag} {mg : Str → Option Value} {B : Bd} {σ : St} {F F' H H' : Hp} {env ts us : List D} {vs ws : List V} {d : D} {v : V} {ow : Own → List Addr}
theorem RE.putD {i : Nat} {u d' : D} {k : Key} {p : V} (R : RE K mg B σ H F env (ts ++ [u]) (vs ++ [v])) (hu : ∀ i, u ≠ .sl i) (hp : σ[i]? = some (some p)) (h : DL.putD (env.getD i .un) k u = some d') :
    ∃ a H', p = .ref a ∧ DPut H a (kV k) v H' ∧ RE K mg B σ H' F (env.set i d') ts vs := by
  rw [List.getD_eq_getElem?_getD] at h
  cases he : env[i]? with
  | none => rw [he] at h; cases h
  | some d =>
    rw [he, Option.getD_some] at h
    cases d with
    | dct o ks xs =>
      cases o with
      | false => cases h
      | true =>
        obtain ⟨v', S0, S1, ev, rp0, rp1, nd, go⟩ := R.mut rfl (fun x hx => by
          rcases List.mem_cons.mp hx with z | z
          · rw [z]; exact hu
          · exact absurd z List.not_mem_nil) he rfl
        rw [hp] at ev
        cases ev
        obtain ⟨u', eu, ru⟩ := rp1.one_inv
        cases eu
        unfold Rp at rp0
        obtain ⟨a, ws, S', rfl, hk, hl, ho⟩ := rp0
        rw [if_pos rfl] at ho
        obtain ⟨ha, rfl⟩ := ho
        have hlw := hl.len
        obtain ⟨nd0, nd1, dis⟩ := List.nodup_append.mp nd
        obtain ⟨na, nd2⟩ := List.nodup_cons.mp nd0
        have an : ∀ b ∈ S1, b ≠ a := fun b hb z => dis a List.mem_cons_self b hb z.symm
        unfold DL.putD at h
        dsimp only at h
        have dK := DPut.k (v := v) (k := k) ha
        have el : (ks.zip ws).length = ks.length := by rw [List.length_zip]; omega
        cases hx : kIx ks k with
        | none =>
          rw [hx] at h
          dsimp only at h
          by_cases hz : ks.length < sizeLine
          · rw [decide_eq_true hz, if_pos rfl] at h
            cases h
            refine ⟨a, _, rfl, dK (by rw [el]; exact hz), ?_⟩
            have e1 : putK (ks.zip ws) k v = (ks ++ [k]).zip (ws ++ [v]) := by
              rw [putK_new (by rw [valV_kIx (by omega), hx]; rfl), List.zip_append (by omega)]
              rfl
            rw [e1]
            have z := go a (.dK ((ks ++ [k]).zip (ws ++ [v]))) (.dct true (ks ++ [k]) (xs ++ [u])) [] [] (a :: (S' ++ S1)) [] List.mem_cons_self ?_ (by unfold RpL; exact ⟨rfl, rfl⟩) ?_ ?_
            · rw [List.append_nil, List.append_nil] at z; exact z
            · unfold Rp
              exact ⟨a, ws ++ [v], S' ++ S1, rfl, by simp [hk], (hl.stay (Ex.refl F) fun b hb => upd_ne fun z => na (by rw [← z]; exact hb)).append (RpL.one (ru.stay (Ex.refl F) fun b hb => upd_ne (an b hb))), by rw [if_pos rfl]; exact ⟨upd_same, rfl⟩⟩
            · rw [List.append_nil]; exact nd
            · intro b hb; rw [List.append_nil] at hb; exact hb
          · rw [decide_eq_false hz, if_neg Bool.false_ne_true] at h; cases h
        | some j =>
          rw [hx] at h
          dsimp only at h
          by_cases hz : (decide ks.Nodup && decide (ks.length < sizeLine)) = true
          · rw [if_pos hz] at h
            rw [Bool.and_eq_true, decide_eq_true_eq, decide_eq_true_eq] at hz
            cases h
            have hj := kIx_lt hx
            obtain ⟨x, hx2⟩ : ∃ x, xs[j]? = some x := ⟨xs[j]'(by omega), by simp⟩
            obtain ⟨w, v1, v2, T1, T2, T3, rfl, hl1, rfl, q1, q2, q3⟩ := hl.at hx2
            refine ⟨a, _, rfl, dK (by rw [el]; exact hz.2), ?_⟩
            rw [putK_kIx (by omega) hx hz.1, set_mid hl1]
            have st : ∀ {b : Addr}, b ∈ T1 ++ (T2 ++ T3) → b ≠ a := fun {b} hb z => na (by rw [← z]; exact hb)
            have n13 : (T1 ++ T3).Nodup ∧ ∀ b ∈ T1 ++ T3, b ∈ T1 ++ (T2 ++ T3) := by
              obtain ⟨m1, m2, m3⟩ := List.nodup_append.mp nd2
              obtain ⟨m4, m5, m6⟩ := List.nodup_append.mp m2
              refine ⟨List.nodup_append.mpr ⟨m1, m5, fun b hb c hc => m3 b hb c (List.mem_append_right _ hc)⟩, fun b hb => ?_⟩
              rcases List.mem_append.mp hb with z | z
              · exact List.mem_append_left _ z
              · exact List.mem_append_right _ (List.mem_append_right _ z)
            have sub : ∀ b ∈ a :: (T1 ++ (S1 ++ T3)), b ∈ (a :: (T1 ++ (T2 ++ T3))) ++ S1 := fun b hb => by
              rcases List.mem_cons.mp hb with z | z
              · rw [z]; exact List.mem_append_left _ List.mem_cons_self
              · rcases List.mem_append.mp z with z | z
                · exact List.mem_append_left _ (List.mem_cons_of_mem _ (List.mem_append_left _ z))
                · rcases List.mem_append.mp z with z | z
                  · exact List.mem_append_right _ z
                  · exact List.mem_append_left _ (List.mem_cons_of_mem _ (List.mem_append_right _ (List.mem_append_right _ z)))
            have z := go a (.dK (ks.zip (v1 ++ v :: v2))) (.dct true ks (xs.set j u)) [] [] (a :: (T1 ++ (S1 ++ T3))) [] List.mem_cons_self ?_ (by unfold RpL; exact ⟨rfl, rfl⟩) ?_ ?_
            · rw [List.append_nil, List.append_nil] at z; exact z
            · unfold Rp
              refine ⟨a, v1 ++ v :: v2, T1 ++ (S1 ++ T3), rfl, by simp [hk], ?_, by rw [if_pos rfl]; exact ⟨upd_same, rfl⟩⟩
              rw [set_split (by omega)]
              exact (q1.stay (Ex.refl F) fun b hb => upd_ne (st (List.mem_append_left _ hb))).append (RpL.cons (ru.stay (Ex.refl F) fun b hb => upd_ne (an b hb)) (q3.stay (Ex.refl F) fun b hb => upd_ne (st (List.mem_append_right _ (List.mem_append_right _ hb)))))
            · rw [List.append_nil]
              obtain ⟨m1, m2, m3⟩ := List.nodup_append.mp n13.1
              refine List.nodup_cons.mpr ⟨fun hb => ?_, List.nodup_append.mpr ⟨m1, List.nodup_append.mpr ⟨nd1, m2, fun b hb c hc z => ?_⟩, fun b hb c hc z => ?_⟩⟩
              · rcases List.mem_append.mp hb with hb | hb
                · exact st (List.mem_append_left _ hb) rfl
                · rcases List.mem_append.mp hb with hb | hb
                  · exact an a hb rfl
                  · exact st (List.mem_append_right _ (List.mem_append_right _ hb)) rfl
              · subst z
                exact dis b (List.mem_cons_of_mem _ (n13.2 b (List.mem_append_right _ hc))) b hb rfl
              · subst z
                rcases List.mem_append.mp hc with hc | hc
                · exact dis b (List.mem_cons_of_mem _ (n13.2 b (List.mem_append_left _ hb))) b hc rfl
                · exact m3 b hb b hc rfl
            · intro b hb; rw [List.append_nil] at hb; exact sub b hb
          · rw [if_neg hz] at h; cases h
    | _ => cases h
end
theorem gs_dput {X : Cx} {W : WX} {P : List Nat} {o i value : Expr} {pos pos' : Pos} {dv da dk : Dn D} (hu : X.A.units + 1 < cLine) (ha : GE X W o da) (hi : GE X W i dk) (hv : GEU X W value (dU dv)) (hs : swapsWith value (some (.Subscript o i pos')) pos.line X.env = pure false := by rfl) :
    GS X W P (.Assign [.Subscript o i pos'] value pos) (nDput dv da dk) := by
  refine PS.imp (ps_dput hu ha hi hv hs) fun T σ H ⟨B, F, env, ts, vs, hpp, na, R, q⟩ => ?_
  unfold nDput at q
  refine ⟨B, F, env, ts, vs, R, (ResP.out q).mono (fun u e1 q1 v H1 F1 hud R1 => ?_) fun _ _ _ _ z => z⟩
  refine ⟨B, F1, e1, ts ++ [u], vs ++ [v], R1, (ResP.out q1).mono (fun x e2 q2 w H2 F2 R2 => ?_) fun _ _ _ _ z => z.pop rfl⟩
  refine ⟨B, F2, e2, _, _, R2, (ResP.out q2).mono (fun y e3 q3 z H3 F3 R3 => ?_) fun _ _ _ _ z => by rw [List.append_assoc, List.append_assoc]; exact z.pop rfl⟩
  cases x with
  | sl j =>
    dsimp only at q3
    cases hk : (asKey (rs e3 y)).bind fun k => DL.putD (e3.getD j .un) k u with
    | none => rw [hk] at q3; exact q3.elim
    | some d =>
      rw [hk] at q3
      obtain ⟨k, ek, ed⟩ := Option.bind_eq_some_iff.mp hk
      obtain ⟨S, ry⟩ := R3.last (fun c => by rw [c] at ek; cases ek)
      have ey := asKey_rp ry ek
      subst ey
      have R4 := R3.drop rfl
      obtain ⟨hj, R5⟩ := RE.alias (us := []) (ws := []) R4 rfl
      rw [List.append_nil, List.append_nil] at R5
      obtain ⟨a, H4, rfl, hp, R6⟩ := R5.putD hud hj ed
      exact ⟨a, H4, rfl, hp, q3 σ H4 F3 R6⟩
  | _ => exact q3.elim
end DL
set_option Elab.async false
set_option linter.all false
set_option maxRecDepth 100000
set_option maxHeartbeats 2000000
/-! DLj: owned lists change in their slots; methods. -/
namespace DL
open PySem L2

section
variable {K : PySem.W.Frag} {mg : Str → Option Value} {B : Bd} {σ : St} {F F' H H' : Hp} {env ts us : List D} {vs ws : List V} {d : D} {v : V} {ow : Own → List Addr}
theorem RpL.nil : RpL K mg F H [] [] [] := by unfold RpL; exact ⟨rfl, rfl⟩
/-- counts tell all: no address twice, none that is new -/
theorem cnt_nd {S T : List Addr} (h : ∀ a, T.count a ≤ S.count a) (nd : S.Nodup) : T.Nodup ∧ ∀ a ∈ T, a ∈ S := by
  refine ⟨List.nodup_iff_count.mpr fun a => Nat.le_trans (h a) (List.nodup_iff_count.mp nd a), fun a ha => ?_⟩
  have := List.count_pos_iff.mpr ha
  exact List.count_pos_iff.mp (Nat.lt_of_lt_of_le this (h a))

/-- an owned list in a slot: its items, and how it changes -/
theorem RE.lmut {i : Nat} {p : V} {xs : List D} (R : RE K mg B σ H F env (ts ++ us) (vs ++ ws)) (hl : us.length = ws.length) (hn : noAl us) (he : env[i]? = some (.lst true xs)) (hp : σ[i]? = some (some p)) :
    ∃ a zs S0 S1, p = .ref a ∧ H a = some (.lst zs) ∧ RpL K mg F H xs zs S0 ∧ RpL K mg F H us ws S1 ∧ ∀ (xs' : List D) (zs' : List V) (rs : List D) (rvs : List V) (S' T : List Addr), RpL K mg F H xs' zs' S' → RpL K mg F H rs rvs T → (∀ b, (S' ++ T).count b ≤ (S0 ++ S1).count b) →
      RE K mg B σ (upd H a (.lst zs')) F (env.set i (.lst true xs')) (ts ++ rs) (vs ++ rvs) := by
  obtain ⟨v', S0, S1, ev, rp0, rp1, nd, go⟩ := R.mut hl hn he rfl
  rw [hp] at ev
  cases ev
  unfold Rp at rp0
  obtain ⟨a, zs, S', rfl, hz, ho⟩ := rp0
  rw [if_pos rfl] at ho
  obtain ⟨ha, rfl⟩ := ho
  refine ⟨a, zs, S', S1, rfl, ha, hz, rp1, fun xs' zs' rs rvs S2 T h1 h2 hc => ?_⟩
  have ndc := List.nodup_iff_count.mp nd
  have na : ∀ {b : Addr}, b ∈ S2 ++ T → b ≠ a := fun {b} hb z => by
    subst z
    have q1 := List.count_pos_iff.mpr hb
    have q2 := hc b
    have q3 := ndc b
    rw [List.cons_append, List.count_cons_self] at q3
    omega
  obtain ⟨n1, n2⟩ := cnt_nd (S := (a :: S') ++ S1) (T := (a :: S2) ++ T) (fun b => by
    rw [List.cons_append, List.cons_append, List.count_cons, List.count_cons]
    have := hc b
    omega) nd
  refine go a (.lst zs') (.lst true xs') rs rvs (a :: S2) T List.mem_cons_self ?_ (h2.stay (Ex.refl F) fun b hb => upd_ne (na (List.mem_append_right _ hb))) n1 n2
  unfold Rp
  exact ⟨a, zs', S2, rfl, h1.stay (Ex.refl F) fun b hb => upd_ne (na (List.mem_append_left _ hb)), by rw [if_pos rfl]; exact ⟨upd_same, rfl⟩⟩

/-! ### xs[i] = e -/
def setL : D → D → D → Option D
  | .lst true xs, .int i, u => (ixN xs.length i).map fun j => .lst true (xs.set j u)
  | _, _, _ => none
theorem RE.setL {i : Nat} {u d' dj : D} {p vj : V} {Sj : List Addr} (R : RE K mg B σ H F env (ts ++ [u]) (vs ++ [v])) (hu : ∀ i, u ≠ .sl i) (hp : σ[i]? = some (some p)) (rj : Rp K mg F H dj vj Sj) (h : DL.setL (env.getD i .un) dj u = some d') {Q : Hp → Prop}
    (q : ∀ H', RE K mg B σ H' F (env.set i d') ts vs → Q H') : rSetL p vj v H Q := by
  rw [List.getD_eq_getElem?_getD] at h
  cases he : env[i]? with
  | none => rw [he] at h; cases h
  | some d =>
    rw [he, Option.getD_some] at h
    cases d with
    | lst o xs =>
      cases o with
      | false => cases h
      | true =>
        cases dj with
        | int k =>
          unfold DL.setL at h
          obtain ⟨j, hj, rfl⟩ := Option.map_eq_some_iff.mp h
          unfold Rp at rj
          obtain ⟨rfl, _⟩ := rj
          obtain ⟨a, zs, S0, S1, rfl, ha, hz, rw1, go⟩ := R.lmut rfl (fun x hx => by
            rcases List.mem_cons.mp hx with z | z
            · rw [z]; exact hu
            · exact absurd z List.not_mem_nil) he hp
          obtain ⟨u', eu, ru⟩ := rw1.one_inv
          cases eu
          have hlt := (ixN_seq hj).2.1
          obtain ⟨x, hx⟩ : ∃ x, xs[j]? = some x := ⟨xs[j]'hlt, by simp [hlt]⟩
          obtain ⟨w, v1, v2, T1, T2, T3, rfl, hl1, rfl, q1, q2, q3⟩ := hz.at hx
          refine ⟨a, _, k, j, rfl, rfl, ha, by rw [← hz.len]; exact hj, ?_⟩
          rw [set_mid hl1]
          refine q _ ?_
          have z := go (xs.set j u) (v1 ++ v :: v2) [] [] (T1 ++ (S1 ++ T3)) [] ?_ RpL.nil fun b => ?_
          · rw [List.append_nil, List.append_nil] at z; exact z
          · rw [set_split hlt]
            exact q1.append (RpL.cons ru q3)
          · simp only [List.count_append, List.count_nil]
            omega
        | _ => cases h
    | _ => cases h
end
/-- value, then the list, then the place -/
@[simp] def nLput (a o k : Dn D) : Sn := fun env => (dU a env).out fun u e => (o e).out fun x e => (k e).out fun y e => match x with
  | .sl i => match setL (e.getD i .un) (rs e y) u with
    | some d => .nx (e.set i d)
    | none => .no
  | _ => .no
theorem gs_lput {X : Cx} {W : WX} {P : List Nat} {o i value : Expr} {pos pos' : Pos} {dv da dk : Dn D} (ha : GE X W o da) (hi : GE X W i dk) (hv : GEU X W value (dU dv)) (hs : swapsWithSole [.Subscript o i pos'] value pos.line X.env = pure false := by rfl) (hw : swappedStores [.Subscript o i pos'] value X.env = pure none := by rfl)
    (has : ∀ v, assign (.Subscript o i pos') X.env v = (do
      let ov ← holding [v] (eval o X.env)
      let iv ← holding [v, ov] (eval i X.env)
      standAt pos'
      holding [v, ov, iv] (setItem ov iv v)
      release [v, ov, iv] []) := by intro _; rfl) :
    GS X W P (.Assign [.Subscript o i pos'] value pos) (nLput dv da dk) := by
  refine PS.imp (ps_asg hv (pg_sub ha hi set_list has) hs hw) fun T σ H ⟨B, F, env, ts, vs, hpp, na, R, q⟩ => ?_
  unfold nLput at q
  refine ⟨B, F, env, ts, vs, R, (ResP.out q).mono (fun u e1 q1 v H1 F1 hud R1 => ?_) fun _ _ _ _ z => z⟩
  refine ⟨B, F1, e1, ts ++ [u], vs ++ [v], R1, (ResP.out q1).mono (fun x e2 q2 w H2 F2 R2 => ?_) fun _ _ _ _ z => z.pop rfl⟩
  refine ⟨B, F2, e2, _, _, R2, (ResP.out q2).mono (fun y e3 q3 z H3 F3 R3 => ?_) fun _ _ _ _ z => by rw [List.append_assoc, List.append_assoc]; exact z.pop rfl⟩
  cases x with
  | sl j =>
    dsimp only at q3
    cases hk : DL.setL (e3.getD j .un) (rs e3 y) u with
    | none => rw [hk] at q3; exact q3.elim
    | some d =>
      rw [hk] at q3
      obtain ⟨S, ry⟩ := R3.last (fun c => by
        rw [c] at hk
        unfold DL.setL at hk
        split at hk
        · rename_i h; cases h
        · cases hk)
      obtain ⟨hj, R5⟩ := RE.alias (us := []) (ws := []) (R3.drop rfl) rfl
      rw [List.append_nil, List.append_nil] at R5
      exact R5.setL hud hj ry hk fun H' R6 => q3 σ H' F3 R6
  | _ => exact q3.elim

/-! ### methods that change -/
def MtS (K : PySem.W.Frag) (mg : Str → Option Value) (r : V → List V → Hp → VK → Prop) (f : D → List D → Option (D × D)) : Prop :=
  ∀ (B : Bd) (σ : St) (H F : Hp) (env ts us : List D) (vs ws : List V) (i : Nat) (p : V) (d' res : D) (Q : VK), RE K mg B σ H F env (ts ++ us) (vs ++ ws) → us.length = ws.length → noAl us → isUn (env.getD i .un) = false → σ[i]? = some (some p) → f (env.getD i .un) us = some (d', res) →
    (∀ v H', RE K mg B σ H' F (env.set i d') (ts ++ [res]) (vs ++ [v]) → Q v H') → r p ws H Q
def isL : D → Bool
  | .lst _ _ => true
  | _ => false
def isDct : D → Bool
  | .dct true _ _ => true
  | _ => false
@[simp] def dMeth (isT : D → Bool) (f : D → List D → Option (D × D)) (o : Dn D) (as : Dn (List D)) : Dn D := o.bind fun x env => match x with
  | .sl i => if isT (env.getD i .un) then (as env).bind fun us e => match f (e.getD i .un) us with
      | some (d', r) => if isUn (e.getD i .un) then .no else .ok r (e.set i d')
      | none => .no
    else .no
  | _ => .no
/-- the type that a method wants -/
def TyOK (K : PySem.W.Frag) (mg : Str → Option Value) (T : String) (isT : D → Bool) : Prop := ∀ (F H : Hp) (d : D) (v : V) (S : List Addr), Ex F H → Rp K mg F H d v S → isT d = true → tyV K T v H
theorem tyOK_list {K : PySem.W.Frag} {mg : Str → Option Value} : TyOK K mg "list" isL := fun F H d v S ex h e => by
  cases d with
  | lst o xs =>
    obtain ⟨a, vs, S', rfl, _, ha⟩ := lst_inv h ex
    exact .inl ⟨rfl, _, Or.inl (Or.inl ha)⟩
  | _ => cases e
theorem tyOK_dict {K : PySem.W.Frag} {mg : Str → Option Value} : TyOK K mg "dict" isDct := fun F H d v S ex h e => by
  cases d with
  | dct o ks xs =>
    cases o with
    | false => cases e
    | true =>
      unfold Rp at h
      obtain ⟨a, vs, S', rfl, hk, hl, ho⟩ := h
      rw [if_pos rfl] at ho
      exact .inr (.inr (.inl ⟨rfl, .inl ⟨_, ho.1⟩⟩))
  | _ => cases e
section
variable {X : Cx} {W : WX} {o e : Expr} {es : List Expr} {da : Dn D} {dr : Dn (List D)} {name : Str} {apos cpos : Pos} {T id : String} {r : V → List V → Hp → VK → Prop} {isT : D → Bool} {f : D → List D → Option (D × D)}
theorem RE.tyIs {K : PySem.W.Frag} {mg : Str → Option Value} {B : Bd} {σ : St} {F H : Hp} {env ts : List D} {vs : List V} {i : Nat} {v : V} (hT : TyOK K mg T isT) (R : RE K mg B σ H F env ts vs) (hv : σ[i]? = some (some v)) (hu : isUn (env.getD i .un) = false) (h : isT (env.getD i .un) = true) : tyV K T v H := by
  obtain ⟨ow, r⟩ := R
  rw [List.getD_eq_getElem?_getD] at h hu
  cases he : env[i]? with
  | none => rw [he] at hu; cases hu
  | some d =>
    rw [he, Option.getD_some] at h hu
    obtain ⟨v', ev, rp⟩ := r.slot i d he (isUn_of hu)
    rw [hv] at ev
    cases ev
    exact hT F H d v _ r.ex rp h
theorem meth_imp (hT : TyOK X.K X.mg T isT) (hT0 : isT .un = false) (hr : MtS X.K X.mg r f) {σ : St} {H : Hp} {Q : VK} (h : rdE X.K X.mg W (dMeth isT f da dr) σ H Q) : tBM X.K T r (rdE X.K X.mg W da) (rdAU X.K X.mg W dr) σ H Q := by
  obtain ⟨B, F, env, ts, vs, R, q⟩ := h
  refine ⟨B, F, env, ts, vs, R, (ResP.bind q).mono (fun x e1 q1 v H1 F1 R1 => ?_) fun _ _ _ _ z => z⟩
  cases x with
  | sl i =>
    dsimp only at q1
    by_cases ht : isT (e1.getD i .un) = true
    · rw [if_pos ht] at q1
      obtain ⟨hv, R2⟩ := RE.alias (us := []) (ws := []) R1 rfl
      rw [List.append_nil, List.append_nil] at R2
      have hu : isUn (e1.getD i .un) = false := by
        cases c : e1.getD i .un with
        | un => rw [c, hT0] at ht; cases ht
        | _ => rfl
      refine ⟨R2.tyIs hT hv hu ht, B, F1, e1, ts, vs, R2, (ResP.bind q1).mono (fun us e2 q2 ws H2 F2 hl na R3 => ?_) fun _ _ _ _ z => z⟩
      cases hf : f (e2.getD i .un) us with
      | none => rw [hf] at q2; exact q2.elim
      | some pr =>
        obtain ⟨d', res⟩ := pr
        rw [hf] at q2
        dsimp only at q2
        by_cases hu2 : isUn (e2.getD i .un) = true
        · rw [if_pos hu2] at q2; exact q2.elim
        · rw [if_neg hu2] at q2
          exact hr B σ H2 F2 e2 ts us vs ws i v d' res Q R3 hl na (by simpa using hu2) hv hf fun v' H' R4 => q2 v' H' F2 R4
    · rw [if_neg ht] at q1; exact q1.elim
  | _ => exact q1.elim
theorem ge_meth (hT : TyOK X.K X.mg T isT) (hT0 : isT .un = false) (hr : MtS X.K X.mg r f) (pa : PlainAttrs T) (slot : Slot T name id) (hty : typeOf (.builtin id) = pure (.type "method_descriptor")) (hm : MtR X id r) (ho : GE X W o da) (ha : GAU X W (e :: es) dr)
    (hbase : attributeBase o name X.env (eval o X.env) = eval o X.env := by rfl)
    (hfew : ((backTo cpos (starEach (e :: es) X.env)).all (fun x => !x.1) && (backToKw cpos (keywordEach [] X.env)).all (fun x => x.1.isSome)
      && decide ((e :: es).length + ([] : List Keyword).length + (if ([] : List Keyword).isEmpty then 0 else 1) < 30)) = true := by rfl)
    (hline : (apos.endLine == cpos.line) = true := by rfl) (hs : starEach (e :: es) X.env = (false, eval e X.env) :: starEach es X.env := by rfl) (hplain : (backTo cpos (starEach es X.env)).any (·.1) = false := by rfl) :
    GE X W (.Call (.Attribute o name apos) (e :: es) [] cpos) (dMeth isT f da dr) :=
  PE.imp (pe_bm pa slot hty hm ho ha hbase hfew hline hs hplain) fun σ H Q h => meth_imp hT hT0 hr h
theorem ge_meth0 (hT : TyOK X.K X.mg T isT) (hT0 : isT .un = false) (hr : MtS X.K X.mg r f) (pa : PlainAttrs T) (slot : Slot T name id) (hty : typeOf (.builtin id) = pure (.type "method_descriptor")) (hm : MtR X id r) (ho : GE X W o da)
    (hbase : attributeBase o name X.env (eval o X.env) = eval o X.env := by rfl) (hline : (apos.endLine == cpos.line) = true := by rfl) :
    GE X W (.Call (.Attribute o name apos) [] [] cpos) (dMeth isT f da dNil) :=
  PE.imp (pe_bm0 pa slot hty hm ho hbase hline) fun σ H Q h => by
    have h' := meth_imp hT hT0 hr h
    obtain ⟨B, F, env, ts, vs, R, q⟩ := h'
    refine ⟨B, F, env, ts, vs, R, q.mono (fun x e1 q1 v H1 F1 R1 => ?_) fun _ _ _ _ z => z⟩
    obtain ⟨ty, B2, F2, e2, t2, v2, R2, q2⟩ := q1 v H1 F1 R1
    exact ⟨ty, q2 [] H1 F2 rfl (fun d hd => absurd hd List.not_mem_nil) (by rw [List.append_nil, List.append_nil]; exact R2)⟩
end
section
variable {K : PySem.W.Frag} {mg : Str → Option Value} {B : Bd} {σ : St} {F F' H H' : Hp} {env ts us : List D} {vs ws : List V} {d : D} {v : V} {ow : Own → List Addr}
/-- the slot's list, if it is one -/
theorem getD_lst {i : Nat} {xs : List D} {o : Bool} (h : env.getD i .un = .lst o xs) : env[i]? = some (.lst o xs) := by
  rw [List.getD_eq_getElem?_getD] at h
  cases e : env[i]? with
  | none => rw [e] at h; cases h
  | some d => rw [e] at h; exact congrArg some h
theorem RpL.two_inv {x y : D} {ws : List V} {S : List Addr} (h : RpL K mg F H [x, y] ws S) : ∃ u w S1 S2, ws = [u, w] ∧ S = S1 ++ S2 ∧ Rp K mg F H x u S1 ∧ Rp K mg F H y w S2 := by
  unfold RpL at h
  obtain ⟨v, r, S1, S2, rfl, rfl, h1, h2⟩ := h
  obtain ⟨w, rfl, h3⟩ := h2.one_inv
  exact ⟨v, w, S1, S2, rfl, rfl, h1, h3⟩
def mAppend : D → List D → Option (D × D)
  | .lst true xs, [u] => if xs.length < sizeLine then some (.lst true (xs ++ [u]), .non) else none
  | _, _ => none
theorem ms_append : MtS K mg rAppend mAppend := by
  intro B σ H F env ts us vs ws i p d' res Q R hl na hu hp e k
  cases hd : env.getD i .un with
  | lst o xs =>
    rw [hd] at e
    cases o with
    | false => cases e
    | true =>
      match us, e with
      | [u], e =>
        unfold mAppend at e
        dsimp only at e
        by_cases hz : xs.length < sizeLine
        · rw [if_pos hz] at e
          cases e
          obtain ⟨a, zs, S0, S1, rfl, ha, hzs, hw, go⟩ := R.lmut hl na (getD_lst hd) hp
          obtain ⟨w, rfl, ru⟩ := hw.one_inv
          exact ⟨a, zs, w, rfl, rfl, ha, by rw [← hzs.len]; exact hz, k _ _ (go (xs ++ [u]) (zs ++ [w]) [.non] [.non] (S0 ++ S1) [] (hzs.append (RpL.one ru)) (RpL.one rp_non) fun b => by simp)⟩
        · rw [if_neg hz] at e; cases e
  | _ => rw [hd] at e; cases e
def mPop : D → List D → Option (D × D)
  | .lst true xs, [] => (xs[xs.length - 1]?).map fun y => (.lst true (xs.eraseIdx (xs.length - 1)), y)
  | _, _ => none
theorem ms_pop : MtS K mg rPop mPop := by
  intro B σ H F env ts us vs ws i p d' res Q R hl na hu hp e k
  cases hd : env.getD i .un with
  | lst o xs =>
    rw [hd] at e
    cases o with
    | false => cases e
    | true =>
      match us, e with
      | [], e =>
        unfold mPop at e
        dsimp only at e
        obtain ⟨y, hy, ee⟩ := Option.map_eq_some_iff.mp e
        cases ee
        obtain ⟨a, zs, S0, S1, rfl, ha, hzs, hw, go⟩ := R.lmut hl na (getD_lst hd) hp
        unfold RpL at hw
        obtain ⟨rfl, rfl⟩ := hw
        obtain ⟨w, v1, v2, T1, T2, T3, rfl, hl1, rfl, q1, q2, q3⟩ := hzs.at hy
        have le := hzs.len
        refine ⟨a, _, w, rfl, rfl, ha, by rw [← le]; exact get_mid hl1, ?_⟩
        have ed : (v1 ++ w :: v2).dropLast = v1 ++ v2 := by
          rw [← List.eraseIdx_length_sub_one, ← le, erase_mid hl1]
        rw [ed]
        exact k _ _ (go (xs.eraseIdx (xs.length - 1)) (v1 ++ v2) [res] [w] (T1 ++ T3) T2 (by rw [erase_split]; exact q1.append q3) (RpL.one q2) fun b => by simp only [List.count_append, List.count_nil]; omega)
      | _ :: _, e => cases e
  | _ => rw [hd] at e; cases e
def mPopAt : D → List D → Option (D × D)
  | .lst true xs, [.int j] => (ixN xs.length j).bind fun n => (xs[n]?).bind fun y => if decide (xs.length < 2 ^ 63) then some (.lst true (xs.eraseIdx n), y) else none
  | _, _ => none
theorem ms_popAt : MtS K mg rPopAt mPopAt := by
  intro B σ H F env ts us vs ws i p d' res Q R hl na hu hp e k
  cases hd : env.getD i .un with
  | lst o xs =>
    rw [hd] at e
    cases o with
    | false => cases e
    | true =>
      match us, e with
      | [.int j], e =>
        unfold mPopAt at e
        dsimp only at e
        obtain ⟨n, hn, e⟩ := Option.bind_eq_some_iff.mp e
        obtain ⟨y, hy, e⟩ := Option.bind_eq_some_iff.mp e
        by_cases hz : xs.length < 2 ^ 63
        · rw [if_pos (decide_eq_true hz)] at e
          cases e
          obtain ⟨a, zs, S0, S1, rfl, ha, hzs, hw, go⟩ := R.lmut hl na (getD_lst hd) hp
          obtain ⟨w0, rfl, rw0⟩ := hw.one_inv
          unfold Rp at rw0
          obtain ⟨rfl, rfl⟩ := rw0
          obtain ⟨w, v1, v2, T1, T2, T3, rfl, hl1, rfl, q1, q2, q3⟩ := hzs.at hy
          have le := hzs.len
          obtain ⟨h1, h2, h3, h4⟩ := ixN_seq hn
          refine ⟨a, _, j, n, w, rfl, rfl, ha, by omega, by omega, by rw [← le]; exact h1, get_mid hl1, ?_⟩
          rw [erase_mid hl1]
          exact k _ _ (go (xs.eraseIdx n) (v1 ++ v2) [res] [w] (T1 ++ T3) T2 (by rw [erase_split]; exact q1.append q3) (RpL.one q2) fun b => by simp only [List.count_append, List.count_nil]; omega)
        · rw [if_neg fun z => hz (of_decide_eq_true z)] at e; cases e
  | _ => rw [hd] at e; cases e
def mClear : D → List D → Option (D × D)
  | .lst true _, [] => some (.lst true [], .non)
  | _, _ => none
theorem ms_clear : MtS K mg rClear mClear := by
  intro B σ H F env ts us vs ws i p d' res Q R hl na hu hp e k
  cases hd : env.getD i .un with
  | lst o xs =>
    rw [hd] at e
    cases o with
    | false => cases e
    | true =>
      match us, e with
      | [], e =>
        cases e
        obtain ⟨a, zs, S0, S1, rfl, ha, hzs, hw, go⟩ := R.lmut hl na (getD_lst hd) hp
        unfold RpL at hw
        obtain ⟨rfl, rfl⟩ := hw
        exact ⟨a, _, rfl, rfl, ha, k _ _ (go [] [] [.non] [.non] [] [] RpL.nil (RpL.one rp_non) fun b => by simp)⟩
      | _ :: _, e => cases e
  | _ => rw [hd] at e; cases e
def mInsert : D → List D → Option (D × D)
  | .lst true xs, [.int j, u] => if decide (xs.length < sizeLine) && decide (0 ≤ j ∧ j < 2 ^ 63) then some (.lst true (xs.take j.toNat ++ ([u] ++ xs.drop j.toNat)), .non) else none
  | _, _ => none
theorem ms_insert : MtS K mg (fun x vs H Q => ∃ (l : Addr) (xs : List V) (i : Int) (y : V), x = .ref l ∧ vs = [.int i, y] ∧ H l = some (.lst xs) ∧ xs.length < sizeLine ∧ 0 ≤ i ∧ i < 2 ^ 63 ∧
    Q .non (upd H l (.lst (xs.take i.toNat ++ [y] ++ xs.drop i.toNat)))) mInsert := by
  intro B σ H F env ts us vs ws i p d' res Q R hl na hu hp e k
  cases hd : env.getD i .un with
  | lst o xs =>
    rw [hd] at e
    cases o with
    | false => cases e
    | true =>
      match us, e with
      | [.int j, u], e =>
        unfold mInsert at e
        dsimp only at e
        by_cases hz : (decide (xs.length < sizeLine) && decide (0 ≤ j ∧ j < 2 ^ 63)) = true
        · rw [if_pos hz] at e
          rw [Bool.and_eq_true, decide_eq_true_eq, decide_eq_true_eq] at hz
          cases e
          obtain ⟨a, zs, S0, S1, rfl, ha, hzs, hw, go⟩ := R.lmut hl na (getD_lst hd) hp
          obtain ⟨w0, w1, T0, T1, rfl, rfl, r0, r1⟩ := hw.two_inv
          unfold Rp at r0
          obtain ⟨rfl, rfl⟩ := r0
          have le := hzs.len
          have hs : xs = xs.take j.toNat ++ xs.drop j.toNat := (List.take_append_drop _ _).symm
          rw [hs] at hzs
          obtain ⟨v1, v2, U1, U2, rfl, rfl, q1, q2⟩ := hzs.split
          have l1 := q1.len
          refine ⟨a, _, j, w1, rfl, rfl, ha, by rw [← le]; exact hz.1, hz.2.1, hz.2.2, ?_⟩
          have e1 : (v1 ++ v2).take j.toNat = v1 ∧ (v1 ++ v2).drop j.toNat = v2 := by
            rw [List.length_take] at l1
            rw [List.length_append] at le
            by_cases c : j.toNat ≤ xs.length
            · have : v1.length = j.toNat := by omega
              rw [← this]
              exact ⟨List.take_left' rfl, List.drop_left' rfl⟩
            · have l2 := q2.len
              rw [List.length_drop] at l2
              have : v2 = [] := List.length_eq_zero_iff.mp (by omega)
              subst this
              rw [List.append_nil]
              exact ⟨List.take_of_length_le (by omega), List.drop_of_length_le (by omega)⟩
          rw [e1.1, e1.2, List.append_assoc]
          exact k _ _ (go _ _ [.non] [.non] (U1 ++ (T1 ++ U2)) [] (q1.append (RpL.append (RpL.one r1) q2)) (RpL.one rp_non) fun b => by simp only [List.count_append, List.count_nil]; omega)
        · rw [if_neg hz] at e; cases e
  | _ => rw [hd] at e; cases e
def mExtend : D → List D → Option (D × D)
  | .lst true xs, [.lst o ys] => if decide (xs.length + ys.length ≤ sizeLine) && frozL ys then some (.lst true (xs ++ ys), .non) else none
  | _, _ => none
theorem ms_extend : MtS K mg rExtend mExtend := by
  intro B σ H F env ts us vs ws i p d' res Q R hl na hu hp e k
  have ex := R.ex
  cases hd : env.getD i .un with
  | lst o xs =>
    rw [hd] at e
    cases o with
    | false => cases e
    | true =>
      match us, e with
      | [.lst o ys], e =>
        unfold mExtend at e
        dsimp only at e
        by_cases hz : (decide (xs.length + ys.length ≤ sizeLine) && frozL ys) = true
        · rw [if_pos hz] at e
          rw [Bool.and_eq_true, decide_eq_true_eq] at hz
          cases e
          obtain ⟨a, zs, S0, S1, rfl, ha, hzs, hw, go⟩ := R.lmut hl na (getD_lst hd) hp
          obtain ⟨w, rfl, ru⟩ := hw.one_inv
          obtain ⟨b, us, rfl, hy, hb⟩ := lst_inv0 ru ex hz.2
          exact ⟨a, b, zs, us, rfl, rfl, ha, hb, by rw [← hzs.len, ← hy.len]; exact hz.1, k _ _ (go (xs ++ ys) (zs ++ us) [.non] [.non] (S0 ++ []) [] (hzs.append hy) (RpL.one rp_non) fun b => by simp)⟩
        · rw [if_neg hz] at e; cases e
  | _ => rw [hd] at e; cases e
def rmFirst (k : Int) : List Int → Option Nat
  | [] => none
  | n :: ns => if n = k then some 0 else (rmFirst k ns).map (· + 1)
theorem rmFirst_spec {k : Int} : ∀ {ns : List Int} {j : Nat}, rmFirst k ns = some j → ns[j]? = some k ∧ ∀ m : Nat, m < j → ns[m]? ≠ some k
  | [], j, h => by cases h
  | n :: ns, j, h => by
    unfold rmFirst at h
    by_cases c : n = k
    · rw [if_pos c] at h; cases h; subst c; exact ⟨rfl, fun m hm => absurd hm (Nat.not_lt_zero _)⟩
    · rw [if_neg c] at h
      obtain ⟨m, hm, rfl⟩ := Option.map_eq_some_iff.mp h
      obtain ⟨h1, h2⟩ := rmFirst_spec hm
      refine ⟨by rw [List.getElem?_cons_succ]; exact h1, fun l hl => ?_⟩
      cases l with
      | zero => intro z; cases z; exact c rfl
      | succ l => rw [List.getElem?_cons_succ]; exact h2 l (by omega)
def mRemove : D → List D → Option (D × D)
  | .lst true xs, [.int k] => (asInts xs).bind fun ns => (rmFirst k ns).map fun j => (.lst true ((ns.eraseIdx j).map .int), .non)
  | _, _ => none
theorem ms_remove : MtS K mg rRemI mRemove := by
  intro B σ H F env ts us vs ws i p d' res Q R hl na hu hp e k
  cases hd : env.getD i .un with
  | lst o xs =>
    rw [hd] at e
    cases o with
    | false => cases e
    | true =>
      match us, e with
      | [.int n], e =>
        unfold mRemove at e
        dsimp only at e
        obtain ⟨ns, hns, e⟩ := Option.bind_eq_some_iff.mp e
        obtain ⟨j, hj, ee⟩ := Option.map_eq_some_iff.mp e
        cases ee
        obtain ⟨a, zs, S0, S1, rfl, ha, hzs, hw, go⟩ := R.lmut hl na (getD_lst hd) hp
        obtain ⟨w0, rfl, rw0⟩ := hw.one_inv
        unfold Rp at rw0
        obtain ⟨rfl, rfl⟩ := rw0
        rw [asInts_inv hns] at hzs
        have ez := RpL.ofInts hzs
        subst ez
        obtain ⟨h1, h2⟩ := rmFirst_spec hj
        exact ⟨a, ns, n, j, rfl, rfl, ha, h1, h2, k _ _ (go _ _ [.non] [.non] [] [] (RpL.ints _) (RpL.one rp_non) fun b => by simp)⟩
  | _ => rw [hd] at e; cases e
end
end DL
set_option Elab.async false
set_option linter.all false
set_option maxRecDepth 100000
set_option maxHeartbeats 2000000
/-! DLk: frozen and moved operands, dict displays, a list within a slot's dict. -/
namespace DL
open PySem L2

/-! ### frozen as it is made; moved out of its slot -/
@[simp] def dFz (a : Dn D) : Dn D := a.bind fun d env => .ok (fz d) env
@[simp] def dMv (i : Nat) : Dn D := fun env => if isUn (env.getD i .un) || isSl (env.getD i .un) then .no else .ok (env.getD i .un) (env.set i .un)
section
variable {X : Cx} {W : WX} {e : Expr} {da : Dn D} {pos : Pos}
theorem fz_sl {d : D} (h : ∀ i, d ≠ .sl i) : ∀ i, fz d ≠ .sl i := fun i z => by
  cases d with
  | sl j => exact h j rfl
  | lst o xs => unfold fz at z; cases z
  | tup xs => unfold fz at z; cases z
  | dct o ks xs => unfold fz at z; cases z
  | obj o c ns xs => unfold fz at z; cases z
  | _ => cases z
theorem ge_fz (h : GEU X W e (dU da)) : GEU X W e (dFz (dU da)) := by
  refine PE.imp (PE.ghost h) fun σ H Q ⟨B, F, env, ts, vs, R, q⟩ => ?_
  refine ⟨B, F, env, ts, vs, R, (ResP.bind q).mono (fun d e1 q1 v H1 F1 hd R1 => ?_) fun _ _ _ _ z => z⟩
  obtain ⟨S, R2⟩ := R1.fzLast hd
  refine ⟨S, fun ods => ?_⟩
  obtain ⟨F2, R2, _⟩ := R2 ods
  exact q1 v _ F2 (fz_sl hd) R2
theorem ge_mv (i : Nat) {x : Str} (hN : X.N[i]? = some x := by rfl) (hv : Vis X.env.scope x := by first | exact Or.inl rfl | exact Or.inr (Or.inl rfl) | exact Or.inr (Or.inr rfl)) (hd : (x == ("__debug__" : Str)) = false := by decide)
    (hcd : (x == ("__classdict__" : Str)) = false := by decide) : GEU X W (.Name x pos) (dMv i) := by
  refine PE.imp (pe_var hN hv hd hcd) fun σ H Q ⟨B, F, env, ts, vs, R, h⟩ => ?_
  unfold dMv at h
  by_cases hz : (isUn (env.getD i .un) || isSl (env.getD i .un)) = true
  · rw [if_pos hz] at h; exact h.elim
  · rw [if_neg hz] at h
    rw [Bool.not_eq_true, Bool.or_eq_false_iff] at hz
    obtain ⟨ow, r⟩ := R
    rw [List.getD_eq_getElem?_getD] at hz h
    cases ee : env[i]? with
    | none => rw [ee] at hz; cases hz.1
    | some x =>
      rw [ee, Option.getD_some] at hz h
      obtain ⟨v, ev, rp⟩ := r.slot i x ee (isUn_of hz.1)
      refine ⟨v, ev, h v H F (fun j z => by rw [z] at hz; cases hz.2) ⟨_, (r.unslot i).push (Tm.of rp) (fun a ha => ⟨fun o z => ?_, r.fno _ a ha, fun z => (r.fr a z).2.2.2 _ ha⟩) (r.nod _)⟩⟩
      by_cases qq : o = .s i
      · subst qq; rw [offS_in] at z; exact absurd z List.not_mem_nil
      · rw [offS_ne qq] at z
        exact qq (r.uniq _ _ a z ha)
end

/-! ### {k: v, ..} -/
@[simp] def dPairs : List (Dn D × Dn D) → Dn (List Key × List D)
  | [] => fun env => .ok ([], []) env
  | (k, v) :: r => k.bind fun x env => match asKey (rs env x) with
    | none => .no
    | some ky => (dU v env).bind fun y env => (dPairs r env).bind fun ps env => .ok (ky :: ps.1, y :: ps.2) env
@[simp] def dDisp (ps : List (Dn D × Dn D)) : Dn D := (dPairs ps).bind fun p env => if decide (p.1.Nodup) && decide (p.1.length ≤ 15) then .ok (.dct true p.1 p.2) env else .no
section
variable {K : PySem.W.Frag} {mg : Str → Option Value} {B : Bd} {σ : St} {F F' H H' : Hp} {env ts us : List D} {vs ws : List V} {d : D} {v : V} {ow : Own → List Addr}
theorem mergeK_zip : ∀ {ks : List Key} {vs : List V} {acc : List (Key × V)}, ks.Nodup → (∀ k ∈ ks, valV acc k = none) → mergeK acc (ks.zip vs) = acc ++ ks.zip vs
  | [], vs, acc, _, _ => by rw [List.zip_nil_left]; exact (List.append_nil _).symm
  | k :: ks, [], acc, _, _ => by rw [List.zip_nil_right]; exact (List.append_nil _).symm
  | k :: ks, v :: vs, acc, nd, h => by
    obtain ⟨nk, nd'⟩ := List.nodup_cons.mp nd
    rw [List.zip_cons_cons]
    show mergeK (putK acc k v) (ks.zip vs) = _
    rw [putK_new (h k List.mem_cons_self), mergeK_zip nd' fun j hj => ?_, List.append_assoc]
    · rfl
    · have hh := h j (List.mem_cons_of_mem _ hj)
      have nj : ¬ k = j := fun z => nk (by rw [z]; exact hj)
      have key : ∀ acc : List (Key × V), valV acc j = none → valV (acc ++ [(k, v)]) j = none := by
        intro acc
        induction acc with
        | nil => intro _; rw [List.nil_append, valV_neg nj]; rfl
        | cons p r ih =>
          intro z
          by_cases c : p.1 = j
          · rw [valV_pos c] at z; cases z
          · rw [valV_neg c] at z
            rw [List.cons_append, valV_neg c]
            exact ih z
      exact key acc hh
/-- the dict that was laid empty is filled with the temporaries above it -/
theorem RE.fillT {p : Addr} {ks : List Key} (R : RE K mg B σ H F env (ts ++ .dct true [] [] :: us) (vs ++ .ref p :: ws)) (hl : us.length = ws.length) (hn : noAl us) (hk : ks.length = us.length) :
    H p = some (.dK []) ∧ RE K mg B σ (upd H p (.dK (ks.zip ws))) F env (ts ++ [.dct true ks us]) (vs ++ [.ref p]) := by
  obtain ⟨ow, r⟩ := R
  have e1 : ts ++ .dct true [] [] :: us = (ts ++ [.dct true [] []]) ++ us := by rw [List.append_assoc]; rfl
  have e2 : vs ++ .ref p :: ws = (vs ++ [.ref p]) ++ ws := by rw [List.append_assoc]; rfl
  rw [e1, e2] at r
  obtain ⟨ow1, S1, r1, rp1, nd1, hn1, _, sb1, in1⟩ := r.takes hl hn
  obtain ⟨ow2, S2, r2, rp2, nd2, hn2, _, sb2, in2⟩ := r1.take1 (d := .dct true [] []) fun i z => by cases z
  unfold Rp at rp2
  obtain ⟨a, vs', S', e, hk', hv, ho⟩ := rp2
  cases e
  rw [if_pos rfl] at ho
  obtain ⟨ha, rfl⟩ := ho
  rw [List.zip_nil_left] at ha
  have pin := hn2 p List.mem_cons_self
  have pn : ∀ a ∈ S1, a ≠ p := fun a ha z => by
    subst z
    obtain ⟨o, ho⟩ := in2 a List.mem_cons_self
    exact (hn1 _ (by assumption)).1 o ho
  refine ⟨ha, ?_⟩
  have r3 : REw K mg B σ (upd H p (.dK (ks.zip ws))) F env ts vs ow2 := by
    refine r2.grow (Ex.refl F) (fun o a ha => upd_ne fun z => pin.1 o (by rw [← z]; exact ha)) r2.fno (fun a u hu => ?_) fun a ha => ⟨upd_ne fun z => pin.2.2 (by rw [← z]; exact ha), rfl⟩
    rw [upd_ne fun z => by rw [z, pin.2.1] at hu; cases hu]
    exact r2.ex a u hu
  refine ⟨_, r3.push (d := .dct true ks us) (v := .ref p) (S := p :: S1) (Tm.of ?_) (fun a ha => ?_) (List.nodup_cons.mpr ⟨fun z => pn p z rfl, nd1⟩)⟩
  · unfold Rp
    exact ⟨p, ws, S1, rfl, hk, rp1.stay (Ex.refl F) fun a ha => upd_ne (pn a ha), by rw [if_pos rfl]; exact ⟨upd_same, rfl⟩⟩
  · rcases List.mem_cons.mp ha with z | z
    · rw [z]; exact pin
    · exact ⟨fun o q => (hn1 a z).1 o (sb2 o a q), (hn1 a z).2⟩
end
section
variable {X : Cx} {W : WX} {pos : Pos}
def rdP (K : PySem.W.Frag) (mg : Str → Option Value) (W : WX) (den : Dn (List Key × List D)) : St → Hp → (List (V × V) → Hp → Prop) → Prop := fun σ H Q => ∃ B F env ts vs, RE K mg B σ H F env ts vs ∧
  ResP (den env) (fun p e => ∀ (ws : List V) H' F', p.1.length = p.2.length → p.2.length = ws.length → noAl p.2 → RE K mg B σ H' F' e (ts ++ p.2) (vs ++ ws) → Q ((p.1.zip ws).map fun kv => (kV kv.1, kv.2)) H') (ErrK K mg W B σ ts vs)
theorem pairs_imp : ∀ {ps : List (Dn D × Dn D)} {σ : St} {H : Hp} {Q : List (V × V) → Hp → Prop}, rdP X.K X.mg W (dPairs ps) σ H Q → tPairs (ps.map fun p => (rdE X.K X.mg W p.1, rdEU X.K X.mg W (dU p.2))) σ H Q
  | [], σ, H, Q, ⟨B, F, env, ts, vs, R, q⟩ => q [] H F rfl rfl (fun d hd => absurd hd List.not_mem_nil) (by rw [List.append_nil, List.append_nil]; exact R)
  | (k, v) :: r, σ, H, Q, ⟨B, F, env, ts, vs, R, q⟩ => by
    refine ⟨B, F, env, ts, vs, R, (ResP.bind q).mono (fun x e1 q1 kv H1 F1 R1 => ?_) fun _ _ _ _ z => z⟩
    cases hk : asKey (rs e1 x) with
    | none => rw [hk] at q1; exact q1.elim
    | some ky =>
      rw [hk] at q1
      obtain ⟨S, rk⟩ := R1.last (fun z => by rw [z] at hk; cases hk)
      have ek := asKey_rp rk hk
      subst ek
      refine ⟨B, F1, e1, ts, vs, R1.drop rfl, (ResP.bind q1).mono (fun y e2 q2 w H2 F2 hy R2 => ?_) fun _ _ _ _ z => z⟩
      refine pairs_imp ⟨B, F2, e2, ts ++ [y], vs ++ [w], R2, (ResP.bind q2).mono (fun p e3 q3 ws H3 F3 l1 l2 na R3 => ?_) fun _ _ _ _ z => z.pop rfl⟩
      rw [List.append_assoc, List.append_assoc] at R3
      exact q3 (w :: ws) H3 F3 (by simp [l1]) (by simp [l2]) (fun d hd => (List.mem_cons.mp hd).elim (fun z => by rw [z]; exact hy) fun z => na d z) R3
theorem ge_disp {keys : List (Option Expr)} {values : List Expr} {ps : List (Dn D × Dn D)} (h : PPs X pos keys values (ps.map fun p => (rdE X.K X.mg W p.1, rdEU X.K X.mg W (dU p.2)))) (hall : keys.all (·.isSome) = true := by rfl) (hl : keys.length = values.length := by rfl)
    (h0 : keys ≠ [] := by intro z; cases z) (h15 : keys.length ≤ 15 := by decide) : GE X W (.Dict keys values pos) (dDisp ps) := by
  refine PE.imp (pe_disp h hall hl h0 h15) fun σ H Q ⟨B, F, env, ts, vs, R, q⟩ p hp => ?_
  have R1 := RE.newDct (us := []) (ws := []) (ks := []) (by rw [List.append_nil, List.append_nil]; exact R) rfl rfl (fun d hd => absurd hd List.not_mem_nil) hp
  rw [List.zip_nil_left] at R1
  refine pairs_imp ⟨B, F, env, _, _, R1, (ResP.bind q).mono (fun x e1 q1 ws H1 F1 l1 l2 na R2 => ?_) fun _ _ _ _ z => z.pop rfl⟩
  rw [List.append_assoc, List.append_assoc] at R2
  obtain ⟨e0, R3⟩ := RE.fillT (ks := x.1) R2 l2 na l1
  by_cases hz : (decide (x.1.Nodup) && decide (x.1.length ≤ 15)) = true
  · rw [if_pos hz] at q1
    rw [Bool.and_eq_true, decide_eq_true_eq, decide_eq_true_eq] at hz
    refine ⟨e0, x.1.zip ws, rfl, by rw [List.length_zip]; omega, ?_⟩
    rw [mergeK_zip hz.1 fun k _ => rfl, List.nil_append]
    exact q1 _ _ F1 R3
  · rw [if_neg hz] at q1; exact q1.elim
theorem ge_dnew : GE X W (.Dict [] [] pos) (dC (.dct true [] [])) := PE.imp pe_dnewK fun σ H Q ⟨B, F, env, ts, vs, R, q⟩ p hp => by
  have R1 := RE.newDct (us := []) (ws := []) (ks := []) (by rw [List.append_nil, List.append_nil]; exact R) rfl rfl (fun d hd => absurd hd List.not_mem_nil) hp
  rw [List.zip_nil_left] at R1
  exact q _ _ F R1
end

/-! ### the list d[k] of the slot's dict -/
def subL (d : D) (k : Key) : Option (Nat × List D) := match d with
  | .dct true ks xs => (kIx ks k).bind fun j => match xs[j]? with
    | some (.lst true ys) => some (j, ys)
    | _ => none
  | _ => none
def setSub (d : D) (j : Nat) (u : D) : D := match d with
  | .dct o ks xs => .dct o ks (xs.set j u)
  | d => d
/-- d[k] != [] -/
@[simp] def dNeNil (i : Nat) (k : Key) : Dn Bool := fun env => match (subL (env.getD i .un) k).bind fun p => asInts p.2 with
  | some ns => .ok (!ns.isEmpty) env
  | none => .no
/-- d[k].pop(0) -/
@[simp] def dPop0 (i : Nat) (k : Key) : Dn D := fun env => match subL (env.getD i .un) k with
  | some (j, y :: ys) => if froz y && decide (ys.length < 2 ^ 62) then .ok y (env.set i (setSub (env.getD i .un) j (.lst true ys))) else .no
  | _ => .no
section
variable {K : PySem.W.Frag} {mg : Str → Option Value} {B : Bd} {σ : St} {F F' H H' : Hp} {env ts us : List D} {vs ws : List V} {d : D} {v : V} {ow : Own → List Addr}
theorem subL_inv {k : Key} {j : Nat} {ys : List D} (h : subL d k = some (j, ys)) : ∃ ks xs, d = .dct true ks xs ∧ kIx ks k = some j ∧ xs[j]? = some (.lst true ys) := by
  unfold subL at h
  cases d with
  | dct o ks xs =>
    cases o with
    | false => cases h
    | true =>
      dsimp only at h
      obtain ⟨m, hm, h⟩ := Option.bind_eq_some_iff.mp h
      cases e : xs[m]? with
      | none => rw [e] at h; cases h
      | some x =>
        rw [e] at h
        cases x with
        | lst o zs =>
          cases o with
          | true => cases h; exact ⟨ks, xs, rfl, hm, e⟩
          | false => cases h
        | _ => cases h
  | _ => cases h
/-- what stands there -/
theorem Rp.sub {k : Key} {j : Nat} {ys : List D} {S : List Addr} (h : Rp K mg F H d v S) (e : subL d k = some (j, ys)) :
    ∃ ks xs a vs v1 v2 b zs T1 T2 T3, d = .dct true ks xs ∧ xs[j]? = some (.lst true ys) ∧ ks.length = xs.length ∧ v = .ref a ∧ H a = some (.dK (ks.zip vs)) ∧ vs = v1 ++ .ref b :: v2 ∧ v1.length = j ∧ valV (ks.zip vs) k = some (.ref b) ∧ H b = some (.lst zs) ∧ RpL K mg F H ys zs T2 ∧
      RpL K mg F H (xs.take j) v1 T1 ∧ RpL K mg F H (xs.drop (j + 1)) v2 T3 ∧ S = a :: (T1 ++ ((b :: T2) ++ T3)) := by
  obtain ⟨ks, xs, rfl, hk, hx⟩ := subL_inv e
  unfold Rp at h
  obtain ⟨a, vs, S', rfl, hkl, hl, ho⟩ := h
  rw [if_pos rfl] at ho
  obtain ⟨ha, rfl⟩ := ho
  have le := hl.len
  obtain ⟨w, v1, v2, T1, T2, T3, rfl, hl1, rfl, q1, q2, q3⟩ := hl.at hx
  unfold Rp at q2
  obtain ⟨b, zs, T2', rfl, hz, ho⟩ := q2
  rw [if_pos rfl] at ho
  obtain ⟨hb, rfl⟩ := ho
  exact ⟨ks, xs, a, _, v1, v2, b, zs, T1, T2', T3, rfl, hx, hkl, rfl, ha, rfl, hl1, by rw [valV_kIx (by omega), hk]; exact get_mid hl1, hb, hz, q1, q3, rfl⟩
end
theorem lay_ints : ∀ ns : List Int, PyData.canLayAll0 (ns.map .int) = true
  | [] => by unfold PyData.canLayAll0; rfl
  | n :: ns => by
    rw [List.map_cons]
    unfold PyData.canLayAll0
    rw [lay_ints ns]
    unfold PyData.canLay0
    rfl
theorem depth_ints : ∀ ns : List Int, PyData.depthAll (ns.map .int) = 0
  | [] => by unfold PyData.depthAll; rfl
  | n :: ns => by
    rw [List.map_cons]
    unfold PyData.depthAll
    rw [depth_ints ns]
    unfold PyData.depth
    rfl
theorem shaped_ints (ns : List Int) : SeqAt.shaped (.list (ns.map .int)) = true := by
  unfold SeqAt.shaped PyData.canLay0 PyData.depth
  rw [lay_ints, depth_ints]
  rfl
theorem toPyL_ints : ∀ ns : List Int, toPyL (ns.map .int) = some (ns.map .int)
  | [] => rfl
  | n :: ns => by
    rw [List.map_cons, List.map_cons]
    unfold toPyL
    rw [toPyL_ints ns]
    rfl
section
variable {X : Cx} {W : WX} {pos p1 p2 p3 p4 apos cpos : Pos} {j1 j2 x4 : Nat}
theorem RE.slotD {K : PySem.W.Frag} {mg : Str → Option Value} {B : Bd} {σ : St} {F H : Hp} {env ts : List D} {vs : List V} {i : Nat} {d : D} (R : RE K mg B σ H F env ts vs) (e : env.getD i .un = d) (hu : isUn d = false) : env[i]? = some d ∧ ∃ v S, σ[i]? = some (some v) ∧ Rp K mg F H d v S := by
  rw [List.getD_eq_getElem?_getD] at e
  cases q : env[i]? with
  | none => rw [q] at e; subst e; cases hu
  | some x =>
    rw [q] at e
    cases e
    obtain ⟨ow, r⟩ := R
    obtain ⟨v, ev, rp⟩ := r.slot i x q (isUn_of hu)
    exact ⟨rfl, v, _, ev, rp⟩
theorem ge_pop0 {x k : Str} (i : Nat) (hu : X.A.units + 1 < cLine) (hN : X.N[i]? = some x := by rfl) (hv : Vis X.env.scope x := by first | exact Or.inl rfl | exact Or.inr (Or.inl rfl) | exact Or.inr (Or.inr rfl)) (hd : (x == ("__debug__" : Str)) = false := by decide)
    (hcd : (x == ("__classdict__" : Str)) = false := by decide) (hni : NoSl (.Constant (.str k) j1 p2) := by intro _ _; rfl)
    (hbase : attributeBase (.Subscript (.Name x p1) (.Constant (.str k) j1 p2) p3) "pop" X.env (eval (.Subscript (.Name x p1) (.Constant (.str k) j1 p2) p3) X.env) = eval (.Subscript (.Name x p1) (.Constant (.str k) j1 p2) p3) X.env := by rfl)
    (hfew : ((backTo cpos (starEach ([.Constant (.int 0) j2 p4] : List Expr) X.env)).all (fun x => !x.1) && (backToKw cpos (keywordEach [] X.env)).all (fun x => x.1.isSome)
      && decide (([.Constant (.int 0) j2 p4] : List Expr).length + ([] : List Keyword).length + (if ([] : List Keyword).isEmpty then 0 else 1) < 30)) = true := by rfl)
    (hline : (apos.endLine == cpos.line) = true := by rfl) (hs : starEach ([.Constant (.int 0) j2 p4] : List Expr) X.env = (false, eval (.Constant (.int 0) j2 p4) X.env) :: starEach [] X.env := by rfl) (hplain : (backTo cpos (starEach [] X.env)).any (·.1) = false := by rfl) :
    GE X W (.Call (.Attribute (.Subscript (.Name x p1) (.Constant (.str k) j1 p2) p3) "pop" apos) [.Constant (.int 0) j2 p4] [] cpos) (dPop0 i (.inr k)) := by
  refine PE.imp (pe_bm PySem.F.plainAttrs_list PySem.F.slot_list_pop PySem.F.type_list_pop mt_popAt (pe_dget hu (pe_var hN hv hd hcd) pe_str hni) (pa_cons pe_int pa_nil) hbase hfew hline hs hplain) fun σ H Q ⟨B, F, env, ts, vs, R, q⟩ => ?_
  unfold dPop0 at q
  cases hsub : subL (env.getD i .un) (.inr k) with
  | none => rw [hsub] at q; exact q.elim
  | some pr =>
    obtain ⟨j, zs⟩ := pr
    rw [hsub] at q
    cases zs with
    | nil => exact q.elim
    | cons y ys =>
      dsimp only at q
      by_cases hy : (froz y && decide (ys.length < 2 ^ 62)) = true
      · rw [if_pos hy] at q
        rw [Bool.and_eq_true, decide_eq_true_eq] at hy
        obtain ⟨ks0, xs0, ed, _, _⟩ := subL_inv hsub
        obtain ⟨he, _⟩ := R.slotD ed rfl
        obtain ⟨v, S0, S1, ev, rp0, rp1, nd, go⟩ := RE.mut (us := []) (ws := []) (by rw [List.append_nil, List.append_nil]; exact R) rfl (fun d hd => absurd hd List.not_mem_nil) he rfl
        unfold RpL at rp1
        obtain ⟨_, rfl⟩ := rp1
        rw [← ed] at rp0
        obtain ⟨ks, xs, a, us, v1, v2, b, zs, T1, T2, T3, ed2, hx2, hkl, rfl, ha, rfl, hl1, hval, hb, hz, q1, q3, rfl⟩ := rp0.sub hsub
        rw [ed2] at ed
        cases ed
        have ndc := List.nodup_iff_count.mp nd
        unfold RpL at hz
        obtain ⟨w, r, U1, U2, rfl, rfl, w1, w2⟩ := hz
        have e0 := w1.froz hy.1
        subst e0
        have lr := w2.len
        refine ⟨_, ev, a, .ref b, rfl, (by rw [← hval]; exact DGet.k (k := .inr k) ha), .inl ⟨rfl, _, Or.inl (Or.inl hb)⟩, b, w :: r, 0, 0, w, rfl, rfl, hb, by omega, by omega, ?_, rfl, ?_⟩
        · exact (ixN_seq (n := (w :: r).length) (i := 0) (j := 0) (by unfold ixN; rw [if_pos (by omega), if_pos (by simp)]; rfl)).1
        · have sep : ∀ c, c ∈ T1 ++ (U2 ++ T3) → c ≠ b ∧ c ≠ a := fun c hc => by
            have z := ndc c
            have z2 := List.count_pos_iff.mpr hc
            simp only [List.count_append, List.count_cons, List.count_nil, List.nil_append] at z z2
            refine ⟨fun h => ?_, fun h => ?_⟩
            · subst h; simp at z; omega
            · subst h; simp at z; omega
          have nab : a ≠ b := fun h => by
            have z := ndc a
            subst h
            simp only [List.count_append, List.count_cons, List.count_nil, List.nil_append] at z
            simp at z
          have e9 : (w :: r).eraseIdx 0 = r := rfl
          rw [e9]
          have hj : j < xs0.length := (List.getElem?_eq_some_iff.mp hx2).1
          refine q _ _ F (go b (.lst r) _ [y] [w] (a :: (T1 ++ ((b :: U2) ++ T3))) [] ?_ ?_ ?_ ?_ ?_)
          · simp
          · rw [ed2]
            unfold setSub Rp
            refine ⟨a, v1 ++ .ref b :: v2, T1 ++ ((b :: U2) ++ T3), rfl, by simp [hkl], ?_, ?_⟩
            · rw [set_split hj]
              refine (q1.stay (Ex.refl F) fun c hc => upd_ne (sep c (List.mem_append_left _ hc)).1).append (RpL.cons ?_ (q3.stay (Ex.refl F) fun c hc => upd_ne (sep c (List.mem_append_right _ (List.mem_append_right _ hc))).1))
              unfold Rp
              exact ⟨b, r, U2, rfl, w2.stay (Ex.refl F) fun c hc => upd_ne (sep c (List.mem_append_right _ (List.mem_append_left _ hc))).1, by rw [if_pos rfl]; exact ⟨upd_same, rfl⟩⟩
            · rw [if_pos rfl]
              exact ⟨(upd_ne nab).trans ha, rfl⟩
          · exact RpL.one (w1.stay (Ex.refl F) fun c hc => absurd hc List.not_mem_nil)
          · rw [List.append_nil]
            rw [List.nil_append, List.append_nil] at nd
            exact nd
          · intro c hc
            rw [List.append_nil] at hc
            rw [List.append_nil, List.nil_append]
            exact hc
      · rw [if_neg hy] at q; exact q.elim
theorem gt_neNil {x k : Str} (i : Nat) (hu : X.A.units + 64 < cLine) (hN : X.N[i]? = some x := by rfl) (hv : Vis X.env.scope x := by first | exact Or.inl rfl | exact Or.inr (Or.inl rfl) | exact Or.inr (Or.inr rfl)) (hd : (x == ("__debug__" : Str)) = false := by decide)
    (hcd : (x == ("__classdict__" : Str)) = false := by decide) (hni : NoSl (.Constant (.str k) j1 p2) := by intro _ _; rfl) :
    GT X W (.Compare (.Subscript (.Name x p1) (.Constant (.str k) j1 p2) p3) [.NotEq] [.List [] p4] pos) (dNeNil i (.inr k)) := by
  refine PT.imp (pt_cmpR (op_neD (by omega)) (pe_dget (by omega) (pe_var hN hv hd hcd) pe_str hni) (pe_lst pa_nil) (nomark _)) fun σ H Q ⟨B, F, env, ts, vs, R, q⟩ => ?_
  unfold dNeNil at q
  cases hsub : (subL (env.getD i .un) (.inr k)).bind fun p => asInts p.2 with
  | none => rw [hsub] at q; exact q.elim
  | some ns =>
    rw [hsub] at q
    obtain ⟨pr, h1, h2⟩ := Option.bind_eq_some_iff.mp hsub
    obtain ⟨j, ys⟩ := pr
    obtain ⟨ks0, xs0, ed, _, _⟩ := subL_inv h1
    have ex := R.ex
    obtain ⟨he, v, S, ev, rp⟩ := R.slotD ed rfl
    rw [← ed] at rp
    obtain ⟨ks, xs, a, us, v1, v2, b, zs, T1, T2, T3, ed2, hx2, hkl, rfl, ha, rfl, hl1, hval, hb, hz, q1, q3, rfl⟩ := rp.sub h1
    have eys := asInts_inv h2
    dsimp only at eys
    subst eys
    have ezs := RpL.ofInts hz
    subst ezs
    refine ⟨_, ev, a, .ref b, rfl, (by rw [← hval]; exact DGet.k (k := .inr k) ha), Nat.zero_le _, fun l hl => ?_⟩
    have lb : l ≠ b := fun z => by rw [z, hb] at hl; cases hl
    have lh : ∀ {c u}, H c = some u → upd H l (.lst []) c = some u := fun {c u} hc => by rw [upd_ne (ne_of_none hc hl)]; exact hc
    have R2 := R.newLst0 (xs := []) (ws := []) RpL.nil hl
    have r1 : Rp X.K X.mg F (upd H l (.lst [])) (.lst true (ns.map .int)) (.ref b) [b] := by
      unfold Rp
      exact ⟨b, _, [], rfl, RpL.ints ns, by rw [if_pos rfl]; exact ⟨lh hb, rfl⟩⟩
    have r2 : Rp X.K X.mg F (upd H l (.lst [])) (.lst true []) (.ref l) [l] := by
      unfold Rp
      exact ⟨l, _, [], rfl, RpL.nil, by rw [if_pos rfl]; exact ⟨upd_same, rfl⟩⟩
    have t1 : toPy (.lst true (ns.map .int)) = some (.list (ns.map .int)) := by
      unfold toPy
      rw [toPyL_ints]
      rfl
    refine os_ne B σ (upd H l (.lst [])) F env ts vs (.lst true (ns.map .int)) (.lst true []) (.ref b) (.ref l) _ _ (.bl (!ns.isEmpty)) _ (R2.drop rfl) r1 r2 ?_ fun v' H' F' R' => ?_
    · unfold fNe eqP
      have t2 : toPy (.lst true []) = some (.list (([] : List Int).map .int)) := rfl
      rw [t1, t2]
      show Option.map (fun b => D.bl !b) (if (SeqAt.shaped _ && SeqAt.shaped _) = true then some (PyData.eqv _ _) else none) = _
      rw [shaped_ints, shaped_ints]
      cases ns with
      | nil => rfl
      | cons n ns => rfl
    · exact ⟨_, R'.bool (b := !ns.isEmpty) rfl, q H' F' (R'.drop rfl)⟩
end
end DL
set_option Elab.async false
set_option linter.all false
set_option maxRecDepth 100000
set_option maxHeartbeats 4000000
/-! DLm: exceptions raised and caught; isinstance; repr. -/
namespace DL
open PySem L2
open PyProof.Rows (AllBare)

/-! ### raise -/
@[simp] def nRaise (c : Str) : Sn := fun env => .er c [] [] env
section
variable {X : Cx} {W : WX} {P : List Nat}
theorem gs_raise {C : Addr} {bmB : List Value} {Bc newId initId : String} {x m : Str} {j : Nat} {p p2 pos pos2 : Pos} (hc : X.calm = true) (tk : Takes X W) (Fx : ExcBaseFacts Bc newId initId bmB) (q : PySem.W.excIn X.K C bmB newId = true) (gC : X.mg x = some (.ref C)) (kC : PySem.W.keepIn X.K (.ref C) = true)
    (h1 : PySem.W.subIn X.K (.ref C) (.type "BaseException") = some true) (h2 : PySem.W.typeIn X.K (.ref C) = some (.type "type")) (hg : Gl X x := by rfl) (hdb : (x == ("__debug__" : Str)) = false := by decide) :
    GS X W P (.Raise (some (.Call (.Name x p) [.Constant (.str m) j p2] [] pos)) none pos2) (nRaise x) := by
  refine PS.imp (ps_raise hc tk (pmk_own Fx q gC kC (raises_own h1 h2) hg hdb)) fun T σ H ⟨B, F, env, ts, vs, hpp, na, R, q⟩ => ?_
  exact q (.ref C) none σ H F R ⟨C, gC, rfl, .inl ⟨rfl, rfl, rfl⟩⟩
end

/-! ### try: .. except x as n: .. ; what is caught stays known -/
section
variable {X : Cx} {pins : List (Addr × Obj)} {σ : L2.St} {H : Hp} {s sI s' : Shared} {B : Heap} {a : Addr} {cls : Value} {d : Option Addr}
theorem excHO_ok {P : Program} {w : World} {H : Hp} {h : Heap} {oe : Obj} {vs : Array Value} (e : h.get? a = some oe) (z : Zc cls d oe) (hd : oe.data = .fields vs) : ObjOk P w H h a (excHO a cls d) :=
  ⟨⟨oe, vs, e, z, hd⟩, ⟨oe, e⟩, fun h1 h2 ⟨o1, v1, e1, z1, d1⟩ k => ⟨o1, v1, k _ e1, z1, d1⟩⟩
theorem hok_more {P : Program} {w : World} {H : Hp} {h : Heap} {o : HO} (hok : HOk P w H h) (na : H a = none) (new : ObjOk P w (upd H a o) h a o) : HOk P w (upd H a o) h := fun b u hb => by
  by_cases e : b = a
  · subst e
    rw [upd_same] at hb
    cases hb
    exact new
  · rw [upd_ne e] at hb
    have other : ∀ {c : Addr} {y : HO}, H c = some y → upd H a o c = some y := fun {c y} hc => (upd_ne (ne_of_none hc na)).trans hc
    exact (hok b u hb).stay (fun c y _ q => q) (fun c hc => other hc) fun c ys hc => other hc
/-- the exception has landed and is known -/
theorem landedE (I : Inv X pins σ H sI) (nb : ∀ b o, sI.heap.get? b = some o → b ∉ frs X.stack → B.get? b = some o) (st : B.StaysIn s'.heap) (up : sI.heap.UpToSlots s'.heap) (os : s'.os = sI.os) (ag : AllBare s'.gens)
    (na : H a = none) (ni : sI.heap.get? a = none) {oe : Obj} {vs : Array Value} (e : s'.heap.get? a = some oe) (z : Zc cls d oe) (hd : oe.data = .fields vs) : Inv X pins σ (upd H a (excHO a cls d)) s' := by
  have slots : ∀ b ∈ frs X.stack, ∀ o, sI.heap.get? b = some o → ∃ sl, s'.heap.get? b = some { o with slots := sl } := fun b hb o q => by
    obtain ⟨_, o2, q2, hdat⟩ := I.stack.mem hb
    rw [q] at q2
    cases q2
    exact up b o q hdat
  have other : ∀ {c : Addr} {y : HO}, H c = some y → upd H a (excHO a cls d) c = some y := fun {c y} hc => (upd_ne (ne_of_none hc na)).trans hc
  have J := I.call (ch := []) (h' := s'.heap) (g' := s'.gens) (t' := s'.toks) (d' := s'.drawn) (H' := upd H a (excHO a cls d))
    ⟨fun b o q _ hb _ => st b o (nb b o q hb), fun b o q _ hb _ => slots b hb o q, fun b o q n _ => (by
      rw [upd_ne fun w => by rw [w, ni] at q; cases q]
      exact n), fun b o q _ => (by
      by_cases hb : b ∈ frs X.stack
      · obtain ⟨sl, w⟩ := slots b hb o q
        exact ⟨_, w⟩
      · exact ⟨o, st b o (nb b o q hb)⟩), fun _ _ q => other q, fun _ _ _ q => other q, fun b ps q => ⟨#[], by rw [other q]; simp⟩⟩
    (hok_more ((I.inGround nb).kept st) na (excHO_ok e z hd)) ag (fun _ w => nomatch w)
  obtain ⟨y1, y2, y3, y4, y5⟩ := s'
  have ey : y5 = sI.os := os
  subst ey
  exact J
end

/-- what the clause wishes of an exception of the body -/
def wE (K : PySem.W.Frag) (c : Value) (i : Nat) (ts : TS) (Wout : WX) (D : Ends) : WX := fun cls d σ H =>
  ∃ b, PySem.W.exmOne K cls c = some b ∧ (b = true → ∀ a, H a = none → ts ⟨fun σ' H' => D.nx (σ'.set i none) H', D.rt, fun σ' H' => D.bk (σ'.set i none) H', fun σ' H' => D.ct (σ'.set i none) H'⟩ (σ.set i (some (.ref a))) (upd H a (excHO a cls d))) ∧ (b = false → Wout cls d σ H)
section
variable {X : Cx} {x n : Str} {c : Value} {i : Nat} {body suite : List Stmt} {b₀ : Stmt} {np pos pos' : Pos} {tb : WX → TS} {ts : TS} {Wout : WX}
theorem ps_tryE (hs : X.stack = X.env :: X.outer) (hf : X.env.frame = some X.env.locals) (hN : X.N.Nodup) (hi : X.N[i]? = some n) (hln : X.env.kindOf n = some .local) (hc : Names X x c) (tk : Takes X Wout)
    (hb : ∀ (W : WX) (pn : List (Addr × Obj)) (xe : Value → Shared → Prop), Takes (X.tr pn xe) W → PassesOwn (model X.prog X.w) X.A X.env xe → PSs (X.tr pn xe) body (tb W))
    (hsu : ∀ (a : Addr) (pn : List (Addr × Obj)), PSs (X.suite a pn) (b₀ :: suite) ts) :
    PS X (.Try body [.ExceptHandler (some (.Name x np)) (some n) (b₀ :: suite) pos'] [] [] pos) (fun D σ H => tb (wE X.K c i ts Wout D) D σ H) := by
  constructor
  intro pins s σ H D I h
  have okX := I.ok
  have frames : X.A.frames = some (X.env :: X.outer) := by rw [okX.frames, hs]
  refine wpAny_Try_except ?_
  refine wpAny_mono ((hb (wE X.K c i ts Wout D) (X.pn ++ pins) (fun e z₁ => wpAny (model X.prog X.w) X.A (noteFrame e X.env) (fun _ z₂ => wpAny (model X.prog X.w) X.A (setFlight e none) (fun _ z₃ =>
    wpAny (model X.prog X.w) X.A (handleBy e X.env [.ExceptHandler (some (.Name x np)) (some n) (b₀ :: suite) pos']) (SP X pins D) X.xe z₃) X.xe z₂) X.xe z₁) (fun u z xx => ?_) PassesOwn.looking).run [] s σ H D (I.toTry _) h) (fun f z hz => ?_) (fun e z he => he)
  · obtain ⟨a, B, sI, pin2, σ1, H1, cls, d, rfl, J0, nb, up, sky, na, os, ag, b, hb1, yes, no⟩ := xx
    have J : Inv X pins σ1 H1 sI := J0.ofTry okX
    rw [hs] at sky
    show wpAny (model X.prog X.w) X.A (noteFrame (.ref a) X.env) _ _ _
    refine Sky.land Zc.steady frames hf sky fun g1 fl1 up1 => ?_
    have J1 : Inv X pins σ1 H1 { z with heap := g1 } := J.landed nb fl1.1 (up.trans up1) os ag
    obtain ⟨o1, v1, e1, z1, d1⟩ := fl1.there
    have nfr : a ∉ frs (X.env :: X.outer) := fun hm => by
      obtain ⟨_, o2, e2, hdat⟩ := fl1.2.2.1.mem hm
      rw [e1] at e2
      cases e2
      exact hdat _ d1
    have nL : a ≠ X.env.locals := fun w => nfr (List.mem_filterMap.mpr ⟨X.env, List.mem_cons_self, by rw [hf, w]⟩)
    have nF : a ∉ X.fs := fun hm => by
      obtain ⟨ev, hev, q⟩ := List.mem_filterMap.mp hm
      exact nfr (List.mem_filterMap.mpr ⟨ev, List.mem_cons_of_mem _ hev, q⟩)
    have nI : sI.heap.get? a = none := by
      cases q : sI.heap.get? a with
      | none => rfl
      | some o =>
        have w := nb a o q (by rw [hs]; exact nfr)
        rw [fl1.2.1] at w
        cases w
    have S1 := J1.suite e1 d1 na nL nF
    refine wpAny_handleBy_cons (codeAny_handlers_test ?_) (by intro q; cases q)
    have T1 : PySem.W.Looks (model X.prog X.w) g1 (typeOf (.ref a)) cls := fun A2 Q2 E2 s2 k q => wpAny_typeOf_ref (k _ _ e1) (by rw [z1.1]; exact q)
    have M1 := PySem.W.exm_one (M := model X.prog X.w) J1.kIn T1 hb1
    have named : ∀ {Q2 : Value → Shared → Prop} {E2 : Value → Shared → Prop}, Q2 c { z with heap := g1 } → wpAny (model X.prog X.w) (X.A.mark (some (.ref a))) (eval (.Name x np) X.env) Q2 E2 { z with heap := g1 } := fun {Q2 E2} q => by
      obtain ⟨y1, y2, y3 | ⟨y3, y4, y5⟩⟩ := hc
      · exact ld_glob (X := X.suite a ((a, o1) :: (X.pn ++ pins))) S1 y1 y3 q y2
      · exact ld_blt (X := X.suite a ((a, o1) :: (X.pn ++ pins))) S1 y1 y3 y4 q y5 y2
    refine named (M1.here ?_)
    cases b with
    | false =>
      show wpAny _ X.A (handleBy (.ref a) X.env []) _ _ _
      refine wpAny_handleBy_nil ?_
      obtain ⟨_, _, _, o5, v5, tb5, ot5, ts5, e5, z5, d5, h5, _⟩ := id fl1
      unfold PySem.passOn
      refine wpAny_bind (wpAny_field e5 d5 h5 ?_)
      rw [if_neg (show ¬ ((Value.ref tb5 == Value.none) = true) from by simp)]
      have go : wpAny (model X.prog X.w) X.A (setFlight (.ref a) X.env.frame) (fun _ z4 => wpAny (model X.prog X.w) X.A (throw (.ref a) : Sem Flow) (SP X pins D) X.xe z4) X.xe { z with heap := g1 } := by
        rw [hf]
        exact HandSPX.setFlight_upZ fl1 fun g4 held up4 => wpAny_throw (tk _ _ ⟨a, B, sI, pins, σ1, H1, cls, d, rfl, J, nb, (up.trans up1).trans up4, .inr (.inr (by rw [hs]; exact held)), na, os, ag, no rfl⟩)
      first
        | exact wpAny_bind (wpAny_pure (wpAny_bind go))
        | exact wpAny_bind go
    | true =>
      refine codeAny_handlers_suite_as ?_
      refine HandSPX.lands_againZ fl1 fun g4 fl4 up4 => ?_
      obtain ⟨o4, v4, e4, z4, d4⟩ := fl4.there
      have J4 : Inv X pins σ1 (upd H1 a (excHO a cls d)) { z with heap := g4 } := landedE J nb fl4.1 ((up.trans up1).trans up4) os ag na nI e4 z4 d4
      have S4 : Inv (X.suite a (X.pn ++ pins)) [] σ1 (upd H1 a (excHO a cls d)) { z with heap := g4 } :=
        ⟨J4.ok.suite _ _, J4.os, J4.bare, J4.base, J4.loc, J4.cell, J4.free, J4.freeC, fun p hp => J4.pin p (by rw [List.append_nil] at hp; exact hp), J4.hok, J4.len⟩
      refine store_ok (X := X.suite a (X.pn ++ pins)) (v := .ref a) S4 hN hi (.inl hln) rfl (fun s5 S5 => ?_) (.inr hln)
      refine wpAny_mono ((hsu a (X.pn ++ pins)).run [] s5 _ _ _ S5 (yes rfl a na)) (fun f s6 hsp => ?_) (fun _ _ w => False.elim w)
      have back : ∀ {σ6 : L2.St} {H6 : Hp}, Inv (X.suite a (X.pn ++ pins)) [] σ6 H6 s6 → Inv X pins σ6 H6 s6 := fun {σ6 H6} S6 =>
        ⟨okX, S6.os, S6.bare, S6.base, S6.loc, S6.cell, S6.free, S6.freeC, fun p hp => S6.pin p (by rw [List.append_nil]; exact hp), S6.hok, S6.len⟩
      have fin : ∀ {σ6 : L2.St} {H6 : Hp} {Q : Shared → Prop}, Inv (X.suite a (X.pn ++ pins)) [] σ6 H6 s6 → (∀ s7, Inv X pins (σ6.set i none) H6 s7 → Q s7) →
          wpAny (model X.prog X.w) X.A (do bindName X.env n .none; unbindBehindTheSuite X.env n pos') (fun _ s7 => Q s7) X.xe s6 := fun {σ6 H6 Q} S6 hq => gone_ok (back S6) hN hi hln hq
      match f, hsp with
      | .next, ⟨σ6, H6, S6, q6⟩ => exact fin S6 fun s7 J7 => ⟨_, _, J7, q6⟩
      | .brk, ⟨σ6, H6, S6, q6⟩ => exact fin S6 fun s7 J7 => ⟨_, _, J7, q6⟩
      | .cont, ⟨σ6, H6, S6, q6⟩ => exact fin S6 fun s7 J7 => ⟨_, _, J7, q6⟩
      | .ret u, ⟨v6, σ6, H6, S6, r6, q6⟩ => exact fin S6 fun s7 J7 => ⟨_, _, _, J7, r6, q6⟩
  · match f, hz with
    | .next, ⟨σ', H', J', q⟩ => exact wpAny_execs_nil ⟨σ', H', J'.ofTry okX, q⟩
    | .brk, ⟨σ', H', J', q⟩ => exact ⟨σ', H', J'.ofTry okX, q⟩
    | .cont, ⟨σ', H', J', q⟩ => exact ⟨σ', H', J'.ofTry okX, q⟩
    | .ret u, ⟨v, σ', H', J', r, q⟩ => exact ⟨v, σ', H', J'.ofTry okX, r, q⟩
end

@[simp] def goneO (i : Nat) (r : Out) : Out := match r with
  | .nx e => .nx (e.set i .un)
  | .bk e => .bk (e.set i .un)
  | .ct e => .ct (e.set i .un)
  | .rt d e => .rt d e
  | _ => .no
@[simp] def nTry (i : Nat) (tb : List (Str × Bool)) (b c : Sn) : Sn := fun env => match b env with
  | .er cl ns xs e => match tb.lookup cl with
    | some true => goneO i (c (e.set i (.exc cl ns xs)))
    | some false => .er cl ns xs e
    | none => .no
  | r => r
section
variable {K : PySem.W.Frag} {mg : Str → Option Value} {B : Bd} {σ : L2.St} {F F' H H' : Hp} {env ts us : List D} {vs ws : List V} {d : D} {v : V}
theorem RE.forget {i : Nat} (R : RE K mg B σ H F env ts vs) (hp : ∀ p ∈ B.pins, p.1 ≠ i) (na : noAl ts) : RE K mg B (σ.set i none) H F (env.set i .un) ts vs := by
  obtain ⟨ow, r⟩ := R
  refine ⟨_, (r.unslot i).resig (i := i) (x := none) ?_ hp na⟩
  by_cases hi : i < env.length
  · exact .inr (by rw [List.getElem?_set_self hi])
  · exact .inl (by rw [List.getElem?_eq_none]; simpa using hi)
end
section
variable {X : Cx} {x n : Str} {c : Value} {i : Nat} {body suite : List Stmt} {b₀ : Stmt} {np pos pos' : Pos} {Wout : WX} {P : List Nat} {b k : Sn} {tb : List (Str × Bool)}
theorem gs_try (i : Nat) (tb : List (Str × Bool)) (hx : ∀ cl y, tb.lookup cl = some y → ∀ C, X.mg cl = some (.ref C) → PySem.W.exmOne X.K (.ref C) c = some y) (hs : X.stack = X.env :: X.outer) (hf : X.env.frame = some X.env.locals) (hN : X.N.Nodup) (hc : Names X x c) (tk : Takes X Wout)
    (hb : ∀ (W : WX) (pn : List (Addr × Obj)) (xe : Value → Shared → Prop), Takes (X.tr pn xe) W → PassesOwn (model X.prog X.w) X.A X.env xe → GSs (X.tr pn xe) W P body b)
    (hsu : ∀ (a : Addr) (pn : List (Addr × Obj)), GSs (X.suite a pn) WF P (b₀ :: suite) k) (hi : X.N[i]? = some n := by rfl) (hln : X.env.kindOf n = some .local := by rfl) (hp : P.contains i = false := by rfl) :
    GS X Wout P (.Try body [.ExceptHandler (some (.Name x np)) (some n) (b₀ :: suite) pos'] [] [] pos) (nTry i tb b k) := by
  refine PS.imp (ps_tryE (tb := fun W => rdS X.K X.mg W P b) (ts := rdS X.K X.mg WF P k) (Wout := Wout) hs hf hN hi hln hc tk hb hsu) fun T σ H ⟨B, F, env, ts, vs, hpp, na, R, q⟩ => ?_
  refine ⟨B, F, env, ts, vs, hpp, na, R, ?_⟩
  unfold nTry at q
  cases hbe : b env with
  | nx e => rw [hbe] at q; exact q
  | rt d e => rw [hbe] at q; exact q
  | bk e => rw [hbe] at q; exact q
  | ct e => rw [hbe] at q; exact q
  | no => rw [hbe] at q; exact q
  | er cl ns xs e =>
    rw [hbe] at q
    dsimp only at q
    intro cls dx σ1 H1 F1 R1 ee
    obtain ⟨C, hC, rfl, hd⟩ := ee
    cases hl : tb.lookup cl with
    | none => rw [hl] at q; exact q.elim
    | some y =>
      rw [hl] at q
      refine ⟨y, hx cl y hl C hC, fun hy a na1 => ?_, fun hy => ?_⟩
      · subst hy
        dsimp only at q
        obtain ⟨ow, r1⟩ := R1
        have ex0 : Ex F1 (upd F1 a (excHO a (.ref C) dx)) := Ex.new (r1.ex.none na1)
        have R2 : RE X.K X.mg B σ1 (upd H1 a (excHO a (.ref C) dx)) (upd F1 a (excHO a (.ref C) dx)) e ts vs := ⟨ow, r1.newF na1⟩
        have rp : Rp X.K X.mg (upd F1 a (excHO a (.ref C) dx)) (upd H1 a (excHO a (.ref C) dx)) (.exc cl ns xs) (.ref a) [] := by
          unfold Rp
          refine ⟨rfl, a, C, dx, rfl, hC, upd_same, ?_⟩
          rcases hd with hd | ⟨d0, vs0, e1, e2, e3, e4⟩
          · exact .inl hd
          · exact .inr ⟨d0, vs0, e1, ex0 _ _ e2, e3, e4.stay ex0 fun b hb => absurd hb List.not_mem_nil⟩
        have R3 := (R2.push0 (Tm.of rp)).store (i := i) (pin_ne hpp hp) (fun j w => by cases w) na
        refine ⟨B, _, _, ts, vs, hpp, na, R3, ?_⟩
        cases hk : k (e.set i (.exc cl ns xs)) with
        | nx e2 => rw [hk] at q; exact fun σ' H' F' R' => q _ _ _ (R'.forget (pin_ne hpp hp) na)
        | bk e2 => rw [hk] at q; exact fun σ' H' F' R' => q _ _ _ (R'.forget (pin_ne hpp hp) na)
        | ct e2 => rw [hk] at q; exact fun σ' H' F' R' => q _ _ _ (R'.forget (pin_ne hpp hp) na)
        | rt d e2 => rw [hk] at q; exact q
        | er _ _ _ _ => rw [hk] at q; exact q.elim
        | no => rw [hk] at q; exact q.elim
      · subst hy
        exact q (.ref C) dx σ1 H1 F1 R1 ⟨C, hC, rfl, hd⟩
end

/-! ### isinstance -/
def tyD : D → Option String
  | .non => some "NoneType"
  | .bl _ => some "bool"
  | .int _ => some "int"
  | .str _ => some "str"
  | .lst _ _ => some "list"
  | .tup _ => some "tuple"
  | .dct _ _ _ => some "dict"
  | _ => none
theorem tyD_ok {K : PySem.W.Frag} {mg : Str → Option Value} {F H : Hp} {d : D} {v : V} {S : List Addr} {t : String} (h : Rp K mg F H d v S) (ex : Ex F H) (e : tyD d = some t) : TyX K H v (.type t) := by
  cases d with
  | non => cases e; unfold Rp at h; rw [h.1]; exact .base .non
  | bl b => cases e; unfold Rp at h; rw [h.1]; exact .base (.bl b)
  | int i => cases e; unfold Rp at h; rw [h.1]; exact .base (.int i)
  | str x => cases e; unfold Rp at h; rw [h.1]; exact .base (.str x)
  | lst o xs => cases e; obtain ⟨a, vs, S', rfl, _, hs⟩ := lst_inv h ex; exact .base (.lst hs)
  | tup xs =>
    cases e
    unfold Rp at h
    obtain ⟨a, vs, rfl, _, hs⟩ := h
    rcases ex.sqT hs with (hs | ⟨o, hs⟩) | hs
    · exact .base (.tup hs)
    · exact .fTuple hs
    · obtain ⟨o, _, _, h1, h2, _⟩ := hs
      exact .kTuple h1 h2
  | dct o ks xs =>
    cases e
    obtain ⟨a, vs, S', rfl, _, _, hs⟩ := dct_inv h ex
    rcases hs with hs | ⟨o, hs⟩
    · exact .base (.dK hs)
    · exact .fDict hs
  | _ => cases e
/-- built-in types: is every t a T? -/
def kitT (t T : String) : Option Bool := if t = T then some true else if t ∈ ["NoneType", "bool", "int", "str", "list", "tuple", "dict"] ∧ T ∈ ["bool", "int", "str", "list", "tuple", "dict"] then some (decide (t = "bool" ∧ T = "int")) else none
theorem kitT_ok {t T : String} {b : Bool} (h : kitT t T = some b) : kitB t T = some b := by
  unfold kitT at h
  by_cases c : t = T
  · rw [if_pos c] at h
    cases h
    subst c
    unfold kitB
    rw [if_pos (beq_self_eq_true _)]
  · rw [if_neg c] at h
    by_cases c2 : t ∈ ["NoneType", "bool", "int", "str", "list", "tuple", "dict"] ∧ T ∈ ["bool", "int", "str", "list", "tuple", "dict"]
    · rw [if_pos c2] at h
      obtain ⟨m1, m2⟩ := c2
      have e := Option.some.inj h
      subst e
      have all : (["NoneType", "bool", "int", "str", "list", "tuple", "dict"].all fun t => ["bool", "int", "str", "list", "tuple", "dict"].all fun T => decide (t = T) || decide (kitB t T = some (decide (t = "bool" ∧ T = "int")))) = true := by decide +kernel
      have z := List.all_eq_true.mp (List.all_eq_true.mp all t m1) T m2
      rw [Bool.or_eq_true, decide_eq_true_eq, decide_eq_true_eq] at z
      exact z.resolve_left c
    · rw [if_neg c2] at h; cases h
@[simp] def fIsi (T : String) (d : D) : Option D := (tyD d).bind fun t => (kitT t T).map .bl
section
variable {X : Cx} {W : WX} {e : Expr} {da : Dn D} {p p2 pos : Pos}
theorem ge_isi {y : Str} {T : String} (he : GE X W e da) (hm : X.mg "isinstance" = none) (hy : X.mg y = none) (hv : bootBuiltins y = some (.type T) := by rfl) (hg : Gl X "isinstance" := by rfl) (hgy : Gl X y := by rfl) (hyn : y ≠ "__name__" := by decide) (hyd : (y == ("__debug__" : Str)) = false := by decide)
    (hs : starEach [e, .Name y p2] X.env = (false, eval e X.env) :: starEach [.Name y p2] X.env := by rfl) (hs2 : starEach [.Name y p2] X.env = (false, eval (.Name y p2) X.env) :: starEach [] X.env := by rfl) (hpl : (backTo pos (starEach [.Name y p2] X.env)).any (·.1) = false := by rfl) :
    GE X W (.Call (.Name "isinstance" p) [e, .Name y p2] [] pos) (dUn (fIsi T) da) := by
  refine PE.imp (pe_callB call_isi hg hm (by rfl) (pa_cons he (pa_cons (pe_bltn (v := .ty T) hgy hy hv rfl hyn hyd) pa_nil hs2) hs) (by decide) (by decide) hs hpl) fun σ H Q ⟨B, F, env, ts, vs, R, q⟩ => ?_
  refine ⟨B, F, env, ts, vs, R, (ResP.bind q).mono (fun x e1 q1 v H1 F1 R1 => ?_) fun _ _ _ _ z => z⟩
  obtain ⟨d, ed, k⟩ := q1.lift
  unfold fIsi at ed
  obtain ⟨t, e1, ed⟩ := Option.bind_eq_some_iff.mp ed
  obtain ⟨b, e2, rfl⟩ := Option.map_eq_some_iff.mp ed
  obtain ⟨S, rx⟩ := R1.last (fun z => by rw [z] at e1; cases e1)
  exact ⟨v, .ty T, .type t, .type T, b, rfl, .ty T, tyD_ok rx R1.ex e1, kit_ty (kitT_ok e2), k _ _ _ ((R1.drop rfl).push0 (Tm.of rp_bl))⟩
/-- an exception's or an instance's class, or a plain value's type, by a table -/
structure ExcK (K : PySem.W.Frag) (D : Addr) : Prop where
  cl : (PySem.W.clsIn K D).isSome = true
  ga : PySem.W.findIn K (.ref D) "__getattribute__" = some (some (.builtin "BaseException.__getattribute__"))
  gt : PySem.W.findIn K (.ref D) "__getattr__" = some none
  su : PySem.W.subIn K (.ref D) (.type "BaseException") = some true
  ca : PySem.W.findIn K (.ref D) "__class__" = some (some (.builtin "object.__class__"))
  nd : PySem.W.specialIn K (.builtin "object.__class__") "__get__" = some (some (.builtin "getset_descriptor.__get__"))
  tk : PySem.W.takesIn K (.builtin "object.__class__") = some true
  mr : PySem.W.mroIn K D (.type "object") = some true
def fIsE (tb : List (Str × Bool)) (tt : List String) : D → Option D
  | .exc c _ _ => (tb.lookup c).map .bl
  | d => (tyD d).bind fun t => if t ∈ tt then some (.bl false) else none
def rIsiE (K : PySem.W.Frag) (u : Value) : List V → Hp → VK → Prop := fun xs H Q => ∃ (x c : V) (b : Bool), xs = [x, c] ∧ ClsV c u ∧
  ((∃ t, TyX K H x t ∧ PySem.W.kitOne K t u = some b) ∨ ∃ a D dx, x = .ref a ∧ H a = some (excHO a (.ref D) dx) ∧ (∀ d, dx = some d → ∃ fs, H d = some (.xd fs)) ∧ ExcK K D ∧ PySem.W.kitOne K (.ref D) u = some b) ∧ Q (.bl b) H
theorem call_isiE {X : Cx} (u : Value) : CallR X (.builtin "isinstance") (rIsiE X.K u) := by
  intro pins s σ H xs us Q I r h
  obtain ⟨x, c, b, rfl, k, hx, q⟩ := h
  obtain ⟨u1, u2, rfl, r1, r2⟩ := vals2 r
  have e2 := k.eq r2
  subst e2
  rcases hx with ⟨t, ty, e⟩ | ⟨a, D, dx, rfl, ha, hd, ek, e⟩
  · obtain ⟨P, Z, p, hx⟩ := kit_of I r1 ty
    exact PySem.W.kia_one Z I.kIn p e hx fun tk => ⟨.bl b, H, I.tok tk, rfl, q⟩
  · cases (show u1 = Value.ref a from r1)
    obtain ⟨⟨oe, vs, he, hz, hdat⟩, _, _⟩ := (show ObjOk X.prog X.w H s.heap a (excHO a (.ref D) dx) from I.hok a _ ha)
    have nC : PySem.W.notCls oe := by unfold PySem.W.notCls; rw [hdat]
    obtain ⟨od, J⟩ : ∃ od, PySem.W.InstAt s.heap a oe D od := by
      cases dx with
      | none => exact ⟨none, he, hz.1, nC, by rw [hz.2]; trivial⟩
      | some d =>
        obtain ⟨fs, hf⟩ := hd d rfl
        obtain ⟨mA, ⟨o2, es, ep, e2, _⟩, _⟩ := (show ObjOk X.prog X.w H s.heap d (.xd fs) from I.hok d _ hf)
        exact ⟨some o2, he, hz.1, nC, by rw [hz.2]; exact e2⟩
    exact PySem.W.kia_one (PySem.W.kitx_exc ek.cl ek.ga ek.gt ek.su ek.ca ek.nd ek.tk ek.mr) I.kIn J e (fun z => nomatch z) fun tk => ⟨.bl b, H, I.tok tk, rfl, q⟩
theorem ge_isiE {y : Str} {Cy : Addr} {tb : List (Str × Bool)} {tt : List String} (he : GE X W e da) (hm : X.mg "isinstance" = none) (hy : X.mg y = some (.ref Cy)) (hx : ∀ c b, tb.lookup c = some b → ∀ D, X.mg c = some (.ref D) → ExcK X.K D ∧ PySem.W.kitOne X.K (.ref D) (.ref Cy) = some b)
    (ht : ∀ t, t ∈ tt → PySem.W.kitOne X.K (.type t) (.ref Cy) = some false) (hg : Gl X "isinstance" := by rfl) (hgy : Gl X y := by rfl) (hyd : (y == ("__debug__" : Str)) = false := by decide)
    (hs : starEach [e, .Name y p2] X.env = (false, eval e X.env) :: starEach [.Name y p2] X.env := by rfl) (hs2 : starEach [.Name y p2] X.env = (false, eval (.Name y p2) X.env) :: starEach [] X.env := by rfl) (hpl : (backTo pos (starEach [.Name y p2] X.env)).any (·.1) = false := by rfl) :
    GE X W (.Call (.Name "isinstance" p) [e, .Name y p2] [] pos) (dUn (fIsE tb tt) da) := by
  refine PE.imp (pe_callB (call_isiE (.ref Cy)) hg hm (by rfl) (pa_cons he (pa_cons (pe_glob (v := .ref Cy) hgy hy rfl hyd) pa_nil hs2) hs) (by decide) (by decide) hs hpl) fun σ H Q ⟨B, F, env, ts, vs, R, q⟩ => ?_
  refine ⟨B, F, env, ts, vs, R, (ResP.bind q).mono (fun x e1 q1 v H1 F1 R1 => ?_) fun _ _ _ _ z => z⟩
  obtain ⟨d, ed, k⟩ := q1.lift
  obtain ⟨S, rx⟩ := R1.last (fun z => by rw [z] at ed; cases ed)
  have ex := R1.ex
  have fin : ∀ {b : Bool}, d = .bl b → ((∃ t, TyX X.K H1 v t ∧ PySem.W.kitOne X.K t (.ref Cy) = some b) ∨ ∃ a D dx, v = .ref a ∧ H1 a = some (excHO a (.ref D) dx) ∧ (∀ d, dx = some d → ∃ fs, H1 d = some (.xd fs)) ∧ ExcK X.K D ∧ PySem.W.kitOne X.K (.ref D) (.ref Cy) = some b) →
      rIsiE X.K (.ref Cy) [v, .ref Cy] H1 Q := fun {b} eb hh => ⟨v, .ref Cy, b, rfl, .own Cy, hh, by rw [eb] at k; exact k _ _ _ ((R1.drop rfl).push0 (Tm.of rp_bl))⟩
  have plain : ∀ {dd : D} {t : String}, rs e1 x = dd → tyD dd = some t → t ∈ tt → d = .bl false → rIsiE X.K (.ref Cy) [v, .ref Cy] H1 Q := fun {dd t} e0 e2 m eb => by
    rw [e0] at rx
    exact fin eb (.inl ⟨_, tyD_ok rx ex e2, ht t m⟩)
  cases hr : rs e1 x with
  | exc c ns xs =>
    rw [hr] at ed rx
    obtain ⟨b, eb, rfl⟩ := Option.map_eq_some_iff.mp ed
    unfold Rp at rx
    obtain ⟨_, a, C, dx, rfl, hC, hF, hd⟩ := rx
    obtain ⟨h1, h2⟩ := hx c b eb C hC
    refine fin rfl (.inr ⟨a, C, dx, rfl, ex _ _ hF, fun d ed => ?_, h1, h2⟩)
    rcases hd with ⟨_, _, hd⟩ | ⟨d2, vs2, e1, e2, _⟩
    · rw [hd] at ed; cases ed
    · rw [e1] at ed; cases ed; exact ⟨_, ex _ _ e2⟩
  | un => rw [hr] at ed; cases ed
  | sl _ => rw [hr] at ed; cases ed
  | obj _ _ _ _ => rw [hr] at ed; cases ed
  | scr _ => rw [hr] at ed; cases ed
  | _ =>
    rw [hr] at ed
    unfold fIsE tyD at ed
    dsimp only at ed
    rw [Option.bind_some] at ed
    split at ed
    · rename_i m
      cases ed
      exact plain hr rfl m rfl
    · cases ed
end

/-! ### repr -/
def rRepr (K : PySem.W.Frag) : List V → Hp → VK → Prop := fun xs H Q => ∃ v q, xs = [v] ∧ Dp K H v q ∧ q.showable = true ∧ q.hasDict = false ∧ q.depth ≤ 64 ∧ q.shown.length ≤ sizeLine ∧ Q (.str q.shown) H
theorem call_reprD {X : Cx} (hg : X.A.guards = some []) (hu : X.A.units + 66 < cLine) : CallR X (.builtin "repr") (rRepr X.K) := by
  intro pins s σ H xs us Q I r h
  obtain ⟨v, q, rfl, dp, h1, h2, h3, h4, k⟩ := h
  obtain ⟨u, rfl, ru⟩ := vals1 r
  have fin : ∀ (h' : Heap) (t : Tok) (n : Nat), (∀ b o, s.heap.get? b = some o → h'.get? b = some o) → EP X pins σ Q (.str q.shown t) { s with heap := h', toks := n } := fun h' t n kp => ⟨.str q.shown, H, I.kept kp, ⟨t, rfl⟩, k⟩
  obtain ⟨as, rd⟩ := Dp.reads I q v u dp ru
  cases u with
  | ref a => exact repr_of_reads' rd h1 (PyData.noDict_hsm h2) hg (by omega) (fun _ _ e => e) (fun h' u tk hk => fin h' u tk hk) h4
  | none => cases rd; exact PySem.P.repr_of_none (fin s.heap _ _ fun _ _ e => e)
  | bool b => cases rd; exact PySem.P.repr_of_bool (fin s.heap _ _ fun _ _ e => e)
  | int i t => cases rd; exact PySem.P.repr_of_int (of_decide_eq_true (by simpa [PyData.showable] using h1)) (fin s.heap _ _ fun _ _ e => e)
  | str x t => cases rd; exact PySem.P.repr_of_str (fin s.heap _ _ fun _ _ e => e) h4
  | _ => cases rd
def fRepr : List D → Option D
  | [d] => (toPy d).bind fun q => if q.showable && !q.hasDict && decide (q.depth ≤ 64) && decide (q.shown.length ≤ sizeLine) then some (.str q.shown) else none
  | _ => none
theorem cs_repr {K : PySem.W.Frag} {mg : Str → Option Value} : CaS K mg (rRepr K) fRepr := by
  intro B σ H F env ts vs dx vx d Q R h e k
  match dx, e with
  | [x], e =>
    unfold fRepr at e
    dsimp only at e
    obtain ⟨q, hq, e⟩ := Option.bind_eq_some_iff.mp e
    by_cases hz : (q.showable && !q.hasDict && decide (q.depth ≤ 64) && decide (q.shown.length ≤ sizeLine)) = true
    · rw [if_pos hz] at e
      cases e
      simp only [Bool.and_eq_true, Bool.not_eq_true', decide_eq_true_eq] at hz
      obtain ⟨v, S, rfl, rx⟩ := h.one
      exact ⟨v, q, rfl, rx.dp R.ex hq, hz.1.1.1, hz.1.1.2, hz.1.2, hz.2, k _ H F (R.push0 (Tm.of rp_str))⟩
    · rw [if_neg hz] at e; cases e
end DL
set_option Elab.async false
set_option linter.all false
set_option maxRecDepth 100000
set_option maxHeartbeats 4000000
/-! DLn: stores in parallel, lists taken apart, calls by names. -/
namespace DL
open PySem L2

/-! ### a, b = x, y -/
@[simp] def nPar (i j : Nat) (a : Dn (List D)) : Sn := fun env => (a env).out fun ds e => match ds with
  | [x, y] => .nx ((e.set i x).set j y)
  | _ => .no
@[simp] def nPar3 (i j l : Nat) (a : Dn (List D)) : Sn := fun env => (a env).out fun ds e => match ds with
  | [x, y, z] => .nx (((e.set i x).set j y).set l z)
  | _ => .no
section
variable {K : PySem.W.Frag} {mg : Str → Option Value} {B : Bd} {σ : L2.St} {F F' H H' : Hp} {env ts us : List D} {vs ws : List V} {d : D} {v : V}
theorem RE.store2 {i j : Nat} {x y : D} {v w : V} (R : RE K mg B σ H F env (ts ++ [x, y]) (vs ++ [v, w])) (hi : ∀ p ∈ B.pins, p.1 ≠ i) (hj : ∀ p ∈ B.pins, p.1 ≠ j) (hx : ∀ k, x ≠ .sl k) (hy : ∀ k, y ≠ .sl k) (na : noAl ts) (hij : i ≠ j) :
    RE K mg B ((σ.set i (some v)).set j (some w)) H F ((env.set i x).set j y) ts vs := by
  have e1 : ts ++ [x, y] = (ts ++ [x]) ++ [y] := by rw [List.append_assoc]; rfl
  have e2 : vs ++ [v, w] = (vs ++ [v]) ++ [w] := by rw [List.append_assoc]; rfl
  rw [e1, e2] at R
  have na1 : noAl (ts ++ [x]) := fun d hd => (List.mem_append.mp hd).elim (na d) fun z => by
    rcases List.mem_cons.mp z with z | z
    · rw [z]; exact hx
    · exact absurd z List.not_mem_nil
  have R2 := ((R.store hj hy na1).store hi hx na)
  rw [List.set_comm _ _ hij.symm, List.set_comm _ _ hij.symm] at R2
  exact R2
theorem RE.store3 {i j l : Nat} {x y z : D} {v w u : V} (R : RE K mg B σ H F env (ts ++ [x, y, z]) (vs ++ [v, w, u])) (hi : ∀ p ∈ B.pins, p.1 ≠ i) (hj : ∀ p ∈ B.pins, p.1 ≠ j) (hl : ∀ p ∈ B.pins, p.1 ≠ l) (hx : ∀ k, x ≠ .sl k) (hy : ∀ k, y ≠ .sl k) (hz : ∀ k, z ≠ .sl k) (na : noAl ts)
    (hij : i ≠ j) (hil : i ≠ l) (hjl : j ≠ l) : RE K mg B (((σ.set i (some v)).set j (some w)).set l (some u)) H F (((env.set i x).set j y).set l z) ts vs := by
  have e1 : ts ++ [x, y, z] = (ts ++ [x, y]) ++ [z] := by rw [List.append_assoc]; rfl
  have e2 : vs ++ [v, w, u] = (vs ++ [v, w]) ++ [u] := by rw [List.append_assoc]; rfl
  rw [e1, e2] at R
  have na1 : noAl (ts ++ [x, y]) := fun d hd => (List.mem_append.mp hd).elim (na d) fun q => by
    rcases List.mem_cons.mp q with q | q
    · rw [q]; exact hx
    · rcases List.mem_cons.mp q with q | q
      · rw [q]; exact hy
      · exact absurd q List.not_mem_nil
  have R2 := (R.store hl hz na1).store2 hi hj hx hy na hij
  rw [List.set_comm _ _ hil.symm, List.set_comm _ _ hjl.symm, List.set_comm _ _ hil.symm, List.set_comm _ _ hjl.symm] at R2
  exact R2
end
section
variable {X : Cx} {W : WX} {P : List Nat} {x y z : Str} {a b c : Expr} {px py pz pt pos : Pos} {kt k2 : Nat} {pt2 : Pos} {da : Dn (List D)}
theorem gs_par (i j : Nat) (hc : X.calm = true) (hN : X.N.Nodup) (ha : GAU X W [a, b] da) (hi : X.N[i]? = some x := by rfl) (hj : X.N[j]? = some y := by rfl) (hij : i ≠ j := by decide)
    (hx : X.env.scope.names.lookup x = some .local := by rfl) (hy : X.env.scope.names.lookup y = some .local := by rfl) (hpi : P.contains i = false := by rfl) (hpj : P.contains j = false := by rfl)
    (hw : swappedStores [.Tuple [.Name x px, .Name y py] kt pt] (.Tuple [a, b] k2 pt2) X.env = pure (some [x, y]) := by rfl)
    (hs : swapsWithSole [.Tuple [.Name x px, .Name y py] kt pt] (.Tuple [a, b] k2 pt2) pos.line X.env = pure false := by rfl) :
    GS X W P (.Assign [.Tuple [.Name x px, .Name y py] kt pt] (.Tuple [a, b] k2 pt2) pos) (nPar i j da) := by
  refine PS.imp (ps_par hc hN hi hj hij hx hy ha hw hs) fun T σ H ⟨B, F, env, ts, vs, hpp, na, R, q⟩ => ?_
  refine ⟨B, F, env, ts, vs, R, (ResP.out q).mono (fun ds e1 q1 ws H1 F1 hl nl R1 => ?_) fun _ _ _ _ z => z⟩
  match ds, ws, hl, q1 with
  | [u, w], [u1, w1], _, q1 =>
    exact ⟨u1, w1, rfl, q1 _ H1 F1 (R1.store2 (pin_ne hpp hpi) (pin_ne hpp hpj) (nl u (by simp)) (nl w (by simp)) na hij)⟩
  | [], _, _, q1 => exact q1.elim
  | [_], _, _, q1 => exact q1.elim
  | _ :: _ :: _ :: _, _, _, q1 => exact q1.elim
theorem gs_par3 (i j l : Nat) (hc : X.calm = true) (hN : X.N.Nodup) (ha : GAU X W [a, b, c] da) (hi : X.N[i]? = some x := by rfl) (hj : X.N[j]? = some y := by rfl) (hl : X.N[l]? = some z := by rfl) (hij : i ≠ j := by decide) (hil : i ≠ l := by decide) (hjl : j ≠ l := by decide)
    (hx : X.env.scope.names.lookup x = some .local := by rfl) (hy : X.env.scope.names.lookup y = some .local := by rfl) (hz : X.env.scope.names.lookup z = some .local := by rfl) (hpi : P.contains i = false := by rfl) (hpj : P.contains j = false := by rfl) (hpl : P.contains l = false := by rfl)
    (hw : swappedStores [.Tuple [.Name x px, .Name y py, .Name z pz] kt pt] (.Tuple [a, b, c] k2 pt2) X.env = pure (some [x, y, z]) := by rfl)
    (hs : swapsWithSole [.Tuple [.Name x px, .Name y py, .Name z pz] kt pt] (.Tuple [a, b, c] k2 pt2) pos.line X.env = pure false := by rfl) :
    GS X W P (.Assign [.Tuple [.Name x px, .Name y py, .Name z pz] kt pt] (.Tuple [a, b, c] k2 pt2) pos) (nPar3 i j l da) := by
  refine PS.imp (ps_par3 hc hN hi hj hl hij hil hjl hx hy hz ha hw hs) fun T σ H ⟨B, F, env, ts, vs, hpp, na, R, q⟩ => ?_
  refine ⟨B, F, env, ts, vs, R, (ResP.out q).mono (fun ds e1 q1 ws H1 F1 hl nl R1 => ?_) fun _ _ _ _ z => z⟩
  match ds, ws, hl, q1 with
  | [u, w, r], [u1, w1, r1], _, q1 =>
    exact ⟨u1, w1, r1, rfl, q1 _ H1 F1 (R1.store3 (pin_ne hpp hpi) (pin_ne hpp hpj) (pin_ne hpp hpl) (nl u (by simp)) (nl w (by simp)) (nl r (by simp)) na hij hil hjl)⟩
  | [], _, _, q1 => exact q1.elim
  | [_], _, _, q1 => exact q1.elim
  | [_, _], _, _, q1 => exact q1.elim
  | _ :: _ :: _ :: _ :: _, _, _, q1 => exact q1.elim
end

/-! ### (a, b, ..) = a list -/
@[simp] def tgUnl (gs : List (D → List D → Option (List D))) : D → List D → Option (List D) := fun d env => match d with
  | .lst _ xs => if frozL xs then tgAll gs xs env else none
  | _ => none
theorem tgAll_len : ∀ {gs : List (D → List D → Option (List D))} {xs env e1 : List D}, tgAll gs xs env = some e1 → xs.length = gs.length
  | [], [], _, _, _ => rfl
  | [], _ :: _, _, _, h => by cases h
  | _ :: _, [], _, _, h => by cases h
  | g :: gs, x :: xs, env, e1, h => by
    have h' : ((g x env).bind fun e1 => tgAll gs xs e1) = some e1 := h
    obtain ⟨e3, _, h2⟩ := Option.bind_eq_some_iff.mp h'
    rw [List.length_cons, List.length_cons, tgAll_len h2]
section
variable {K : PySem.W.Frag} {mg : Str → Option Value} {B : Bd} {σ : L2.St} {F F' H H' : Hp} {env ts us : List D} {vs ws : List V} {d : D} {v : V}
theorem RE.push0L : ∀ {xs : List D} {ws : List V} {ts : List D} {vs : List V}, RpL K mg F H xs ws [] → RE K mg B σ H F env ts vs → RE K mg B σ H F env (ts ++ xs) (vs ++ ws)
  | [], ws, ts, vs, h, r => by unfold RpL at h; rw [h.1, List.append_nil, List.append_nil]; exact r
  | x :: xs, ws, ts, vs, h, r => by
    unfold RpL at h
    obtain ⟨y, rr, S1, S2, rfl, e2, p1, p2⟩ := h
    obtain ⟨rfl, rfl⟩ := List.append_eq_nil_iff.mp e2.symm
    have z := RE.push0L p2 (r.push0 (Tm.of p1))
    rw [List.append_assoc, List.append_assoc] at z
    exact z
end
section
variable {X : Cx} {W : WX} {P T : List Nat} {es : List Expr} {gs : List (D → List D → Option (List D))} {pos : Pos}
theorem gg_unl {kk : Nat} (hc : X.calm = true) (h : GGs X P T es gs) (hl : (assignEach es X.env).length = gs.length := by rfl) (hst : (assignEach es X.env).findIdx? (·.1) = none := by rfl) : GG X P T (.Tuple es kk pos) (tgUnl gs) :=
  PG.imp (pg_unl (n := gs.length) hc h hl hst) fun v σ H Q ⟨B, F, env, ts, vs, d, e1, hpp, na, R, hd, eg, q⟩ => by
    cases d with
    | lst o xs =>
      have eg' : (if frozL xs then tgAll gs xs env else none) = some e1 := eg
      cases hf : frozL xs with
      | false => rw [hf, if_neg Bool.false_ne_true] at eg'; cases eg'
      | true =>
        rw [hf, if_pos rfl] at eg'
        obtain ⟨S, rd⟩ := R.last (d := .lst o xs) (fun z => nomatch z)
        have rd' : Rp X.K X.mg F H (.lst o xs) v S := rd
        obtain ⟨a, ws, rfl, rl, sq⟩ := lst_inv0 rd' R.ex hf
        exact ⟨a, ws, rfl, .inl (.inl sq), by rw [← rl.len, tgAll_len eg'], B, F, env, ts, vs, xs, e1, hpp, na, RE.push0L rl (R.drop rfl), rl.len, hf, eg', q⟩
    | _ => cases eg
end

/-! ### f(e, .., k = e, ..) -/
abbrev GK (X : Cx) (W : WX) (kws : List Keyword) (den : Dn (List D)) : Prop := PK X kws (rdAU X.K X.mg W den)
theorem PK.imp {X : Cx} {e : List Keyword} {t t' : TA} (h : PK X e t) (k : ∀ σ H Q, t' σ H Q → t σ H Q) : PK X e t' := ⟨fun pos pins s σ H Q I q => h.run pos pins s σ H Q I (k σ H Q q)⟩
@[simp] def dApp (a b : Dn (List D)) : Dn (List D) := a.bind fun xs => b.bind fun ys env => .ok (xs ++ ys) env
/-- the parameters' order: places in the arguments as they come, then the defaults -/
@[simp] def ordL {α : Type} (dflt : α) (ord : List Nat) (xs : List α) : List α := ord.map fun i => xs.getD i dflt
@[simp] def dFnK (ord : List Nat) (n : Nat) (fden : List D → FR) (dd : List D) (args : Dn (List D)) : Dn D := args.bind fun ds env => if decide (ord.length = n) && frozL ds && ord.all (fun i => decide (i < ds.length + dd.length)) then match fden (ordL .un ord (ds ++ dd)) with
    | .ok d _ => if isSl d || isUn d then .no else .ok d env
    | .er c ns ys _ => .er c ns ys env
    | .no => .no
  else .no
section
variable {X : Cx} {W : WX} {k : Nat} {f : Addr} {fd : FuncData} {ps ks : List Str} {fden : List D → FR} {x : Str} {p pos kpos : Pos} {e : Expr} {es : List Expr} {kws : List Keyword} {da dk : Dn (List D)} {de : Dn D} {nm : Option Str} {sp : Sp}
theorem gk_nil : GK X W [] dNil := PK.imp pk_nil fun σ H Q ⟨B, F, env, ts, vs, R, q⟩ => q [] H F rfl (fun d h => absurd h List.not_mem_nil) (by rw [List.append_nil, List.append_nil]; exact R)
theorem gk_cons (ha : GEU X W e de) (hr : GK X W kws dk) : GK X W (⟨nm, e, kpos⟩ :: kws) (dCons de dk) := by
  refine PK.imp (pk_cons ha hr) fun σ H Q ⟨B, F, env, ts, vs, R, q⟩ => ?_
  refine ⟨B, F, env, ts, vs, R, (ResP.bind q).mono (fun x e1 h1 v H1 F1 hx R1 => ?_) fun _ _ _ _ z => z⟩
  refine ⟨B, F1, e1, ts ++ [x], vs ++ [v], R1, (ResP.bind h1).mono (fun xs e2 h2 ws H2 F2 hl hn R2 => ?_) fun _ _ _ _ z => z.pop rfl⟩
  rw [List.append_assoc, List.append_assoc] at R2
  exact h2 (v :: ws) H2 F2 (by simp [hl]) (fun d hd => (List.mem_cons.mp hd).elim (fun z => by rw [z]; exact hx) fun z => hn d z) R2
def tKw (sp : Sp) (gV : List V → List V) (W : WX) (t tk : TA) : TE := fun σ H Q => t σ H fun vs H1 => tk σ H1 fun zs H2 => sp (gV (vs ++ zs)) H2 Q (WE W σ)
/-- how names bind -/
structure OrdB (K : PySem.W.Frag) (fd : FuncData) (ps ks : List Str) (ord : List Nat) (m : Nat) (ds : List Value) : Prop where
  to : ∀ (s : Shared) (us ws : List Value), K.In s.heap → us.length = m → ws.length = ks.length → BindsTo s fd ⟨us, ks.zip ws⟩ (ps.zip (ordL .none ord (us ++ ws ++ ds)))
  len : ord.length = ps.length
theorem ord_vals {ord : List Nat} {vs : List V} {us : List Value} (h : Vals vs us) : Vals (ordL .non ord vs) (ordL .none ord us) := by
  unfold ordL
  induction ord with
  | nil => exact .nil
  | cons i ord ih =>
    rw [List.map_cons, List.map_cons]
    refine .cons ?_ ih
    have l := h.length
    rw [List.getD_eq_getElem?_getD, List.getD_eq_getElem?_getD]
    cases q : vs[i]? with
    | none =>
      have : us[i]? = none := by
        rw [List.getElem?_eq_none_iff] at q ⊢
        omega
      rw [this]
      rfl
    | some v =>
      obtain ⟨u, hu, r⟩ := h.get q
      rw [hu]
      exact r
theorem run_GK {pins : List (Addr × Obj)} {σ : L2.St} {H : Hp} {s : Shared} {Q : VK} {us ws dsv : List Value} {vs zs dvs : List V} {ord : List Nat} (tk : Takes X W) (F : FnG X.prog X.w X.K X.mg X.base (L2.CX X.prog X.w) k f fd ps sp) (hr : Room k X.A) (hgd : X.A.guards = some []) (hb : OrdB X.K fd ps ks ord us.length dsv) (hd : Vals dvs dsv) (hl : ws.length = ks.length)
    (I : Inv X pins σ H s) (r : Vals vs us) (rz : Vals zs ws) (h : sp (ordL .non ord (vs ++ zs ++ dvs)) H Q (WE W σ)) : wpAny (model X.prog X.w) X.A (call (.ref f) us (ks.zip ws)) (EP X pins σ Q) X.xe s := by
  have rr : Vals (ordL .non ord (vs ++ zs ++ dvs)) (ordL .none ord (us ++ ws ++ dsv)) := ord_vals ((r.append rz).append hd)
  refine wpAny_call (codeAny_mono (F.run X.A X.stack s H ⟨us, ks.zip ws⟩ _ _ Q (WE W σ) hr hgd I.env0 (hb.to s us ws I.kIn rfl hl) rr h) fun res s' hq => ?_)
  match res, hq with
  | .error e, hq => exact passAt tk σ pins H s e s' I hq
  | .ok (.ret u), hq => exact I.after hq
  | .ok .next, hq => exact hq.elim
  | .ok .brk, hq => exact hq.elim
  | .ok .cont, hq => exact hq.elim
theorem pe_kw0 {ord : List Nat} {dsv : List Value} {dvs : List V} {tk' : TA} (tk : Takes X W) (hgd : X.A.guards = some []) (F : FnG X.prog X.w X.K X.mg X.base (L2.CX X.prog X.w) k f fd ps sp) (hr : Room k X.A) (hm : X.mg x = some (.ref f)) (hk : PySem.W.keepIn X.K (.ref f) = true) (hb : OrdB X.K fd ps ks ord 0 dsv) (hd : Vals dvs dsv)
    (hkw : PK X kws tk') (hlen : ∀ σ H (Q : List V → Hp → Prop), tk' σ H Q → tk' σ H (fun ws H' => ws.length = ks.length ∧ Q ws H')) (hg : Gl X x) (hdb : (x == ("__debug__" : Str)) = false) (hall : (backToKw pos (keywordEach kws X.env)).all (·.1.isSome) = true) (hks : (backToKw pos (keywordEach kws X.env)).filterMap (·.1) = ks)
    (hpl : ((backTo pos (starEach [] X.env)).any (·.1) || (backToKw pos (keywordEach kws X.env)).any (·.1.isNone)) = false) :
    PE X (.Call (.Name x p) [] kws pos) (fun σ H Q => tk' σ H fun zs H2 => sp (ordL .non ord (zs ++ dvs)) H2 Q (WE W σ)) := by
  refine ⟨fun pins s σ H Q I h => wpAny_Call_Name_kw (ld_glob I hg hm ?_ hdb)⟩
  refine PySem.W.callWith_KW0 (h₀ := X.base) I.ok.mod.kin hk hall (thn (hkw.run pos pins s σ H _ I (hlen σ H _ h)) fun ws s2 hh => ?_) hpl
  obtain ⟨zs, H2, I2, rz, hl, q2⟩ := hh
  refine ⟨I2.kIn, ?_⟩
  rw [hks]
  exact run_GK (us := []) (vs := []) tk F hr hgd hb hd (by rw [← rz.length, hl]) I2 .nil rz q2
theorem pe_kw {ord : List Nat} {dsv : List Value} {dvs : List V} {t tk' : TA} (tk : Takes X W) (hgd : X.A.guards = some []) (F : FnG X.prog X.w X.K X.mg X.base (L2.CX X.prog X.w) k f fd ps sp) (hr : Room k X.A) (hm : X.mg x = some (.ref f)) (hk : PySem.W.keepIn X.K (.ref f) = true) (hb : OrdB X.K fd ps ks ord (e :: es).length dsv) (hd : Vals dvs dsv)
    (ha : PA X (e :: es) t) (hlena : ∀ σ H (Q : List V → Hp → Prop), t σ H Q → t σ H (fun ws H' => ws.length = (e :: es).length ∧ Q ws H')) (hkw : PK X kws tk') (hlen : ∀ σ H (Q : List V → Hp → Prop), tk' σ H Q → tk' σ H (fun ws H' => ws.length = ks.length ∧ Q ws H')) (hg : Gl X x) (hdb : (x == ("__debug__" : Str)) = false) (hall : (backToKw pos (keywordEach kws X.env)).all (·.1.isSome) = true) (hks : (backToKw pos (keywordEach kws X.env)).filterMap (·.1) = ks)
    (he : starEach (e :: es) X.env = (false, eval e X.env) :: starEach es X.env) (hpl : ((backTo pos (starEach (e :: es) X.env)).any (·.1) || (backToKw pos (keywordEach kws X.env)).any (·.1.isNone)) = false) :
    PE X (.Call (.Name x p) (e :: es) kws pos) (fun σ H Q => t σ H fun vs H1 => tk' σ H1 fun zs H2 => sp (ordL .non ord (vs ++ zs ++ dvs)) H2 Q (WE W σ)) := by
  refine ⟨fun pins s σ H Q I h => wpAny_Call_Name_kw (ld_glob I hg hm ?_ hdb)⟩
  refine PySem.W.callWith_KW (h₀ := X.base) I.ok.mod.kin hk hall (thn (ha.run pos pins s σ H _ I (hlena σ H _ h)) fun us s1 hh => ?_) hpl he
  obtain ⟨vs, H1, I1, r, hl1, q⟩ := hh
  refine thn (hkw.run pos pins s1 σ H1 _ I1 (hlen σ H1 _ q)) fun ws s2 hh => ?_
  obtain ⟨zs, H2, I2, rz, hl, q2⟩ := hh
  refine ⟨I2.kIn, ?_⟩
  rw [hks]
  exact run_GK (us := us) tk F hr hgd (by rw [← r.length, hl1]; exact hb) hd (by rw [← rz.length, hl]) I2 r rz q2
/-- the number of arguments that a denotation gives -/
def LenIs (n : Nat) (den : Dn (List D)) : Prop := ∀ env xs e, den env = .ok xs e → xs.length = n
theorem LenIs.nil : LenIs 0 dNil := fun env xs e h => by cases h; rfl
theorem LenIs.cons {n : Nat} {a : Dn D} {r : Dn (List D)} (h : LenIs n r) : LenIs (n + 1) (dCons a r) := fun env xs e q => by
  unfold dCons Dn.bind at q
  cases h1 : a env with
  | ok x e1 =>
    rw [h1] at q
    have q' : (r e1).bind (fun xs env => .ok (x :: xs) env) = .ok xs e := q
    cases h2 : r e1 with
    | ok ys e2 => rw [h2] at q'; cases q'; rw [List.length_cons, h _ _ _ h2]
    | er _ _ _ _ => rw [h2] at q'; cases q'
    | no => rw [h2] at q'; cases q'
  | er _ _ _ _ => rw [h1] at q; cases q
  | no => rw [h1] at q; cases q
theorem len_imp {n : Nat} {den : Dn (List D)} (hl : LenIs n den) (σ : L2.St) (H : Hp) (Q : List V → Hp → Prop) (h : rdAU X.K X.mg W den σ H Q) : rdAU X.K X.mg W den σ H (fun ws H' => ws.length = n ∧ Q ws H') := by
  obtain ⟨B, F, env, ts, vs, R, q⟩ := h
  refine ⟨B, F, env, ts, vs, R, ?_⟩
  cases e : den env with
  | ok xs e1 => rw [e] at q; exact fun ws H' F' h1 h2 h3 => ⟨by rw [← h1]; exact hl _ _ _ e, q ws H' F' h1 h2 h3⟩
  | er _ _ _ _ => rw [e] at q; exact q
  | no => rw [e] at q; exact q
theorem ord_rp {K : PySem.W.Frag} {mg : Str → Option Value} {F H : Hp} {ord : List Nat} {xs : List D} {vs : List V} (h : RpL K mg F H xs vs []) (ho : ord.all (fun i => decide (i < xs.length)) = true) : RpL K mg F H (ordL .un ord xs) (ordL .non ord vs) [] := by
  unfold ordL
  induction ord with
  | nil => exact RpL.nil
  | cons i ord ih =>
    rw [List.all_cons, Bool.and_eq_true, decide_eq_true_eq] at ho
    obtain ⟨v, hv, rp⟩ := RpL.get h (k := i) (d := xs[i]'ho.1) (by simp [ho.1])
    have := RpL.cons (S1 := []) (S2 := []) rp (ih ho.2)
    rw [List.map_cons, List.map_cons, List.getD_eq_getElem?_getD, List.getD_eq_getElem?_getD, hv, List.getElem?_eq_getElem ho.1]
    exact this
theorem kw_imp {B : Bd} {σ : L2.St} {H F : Hp} {env ts ds dd : List D} {vs ws dvs : List V} {ord : List Nat} {Q : VK} (hdd : ∀ F H, RpL X.K X.mg F H dd dvs []) (hlen : ord.length = ps.length) (R : RE X.K X.mg B σ H F env (ts ++ ds) (vs ++ ws)) (hl : ds.length = ws.length) (na : noAl ds)
    (q : ResP (if (decide (ord.length = ps.length) && frozL ds && ord.all (fun i => decide (i < ds.length + dd.length))) = true then (match fden (ordL .un ord (ds ++ dd)) with
      | .ok d _ => if isSl d || isUn d then Res.no else .ok d env
      | .er c ns ys _ => .er c ns ys env
      | .no => .no) else .no) (fun d e => ∀ v H' F', RE X.K X.mg B σ H' F' e (ts ++ [d]) (vs ++ [v]) → Q v H') (ErrK X.K X.mg W B σ ts vs)) :
    spD X.K X.mg ps.length fden (ordL .non ord (ws ++ dvs)) H Q (WE W σ) := by
  by_cases hz : (decide (ord.length = ps.length) && frozL ds && ord.all (fun i => decide (i < ds.length + dd.length))) = true
  · rw [if_pos hz] at q
    rw [Bool.and_eq_true, Bool.and_eq_true] at hz
    obtain ⟨⟨_, hf⟩, ho⟩ := hz
    obtain ⟨ow, r⟩ := R
    obtain ⟨ow1, S, r1, rp, _⟩ := r.takes hl na
    have e0 := rp.froz hf
    subst e0
    have rp2 : RpL X.K X.mg F H (ds ++ dd) (ws ++ dvs) [] := by
      have z := rp.append (hdd F H)
      exact z
    have rp3 := ord_rp (ord := ord) rp2 (by rw [List.length_append]; exact ho)
    have R0 : RE X.K X.mg B σ H F env ts vs := ⟨ow1, r1⟩
    have z := RE.back (fden := fden) (ds := []) (ws := []) (xs := []) (e1 := env) (ddx := ordL .un ord (ds ++ dd)) (dvx := ordL .non ord (ws ++ dvs)) (n := ps.length) (Q := Q) (E := WE W σ) (by rw [List.append_nil, List.append_nil]; exact R0) rfl (by unfold takeA; rfl) rp3 (by unfold ordL; simp [hlen]) ?_
    · exact z
    · rw [List.nil_append]
      unfold FRP
      cases hfd : fden (ordL .un ord (ds ++ dd)) with
      | no => rw [hfd] at q; exact q.elim
      | er c ns ys pss =>
        rw [hfd] at q
        have e1 : putA [] pss env = env := by unfold putA; cases pss <;> rfl
        intro cls dx H' F' R2 ee
        rw [e1] at R2
        exact q cls dx H' F' R2 ee
      | ok d pss =>
        rw [hfd] at q
        dsimp only at q
        have e1 : putA [] pss env = env := by unfold putA; cases pss <;> rfl
        by_cases hw : (isSl d || isUn d) = true
        · rw [if_pos hw] at q; exact q.elim
        · rw [if_neg hw] at q
          rw [Bool.not_eq_true, Bool.or_eq_false_iff] at hw
          refine ⟨hw.1, hw.2, fun v H' F' R2 => ?_⟩
          rw [e1] at R2
          exact q v H' F' R2
  · rw [if_neg hz] at q; exact q.elim
theorem ge_kw0 {ord : List Nat} {dsv : List Value} {dvs : List V} {dd : List D} (tk : Takes X W) (hgd : X.A.guards = some []) (F : FnD X.prog X.w X.K X.mg X.base k f fd ps fden) (hr : Room k X.A) (hm : X.mg x = some (.ref f)) (hk : PySem.W.keepIn X.K (.ref f) = true) (hb : OrdB X.K fd ps ks ord 0 dsv) (hd : Vals dvs dsv) (hdd : ∀ F H, RpL X.K X.mg F H dd dvs [])
    (hkw : GK X W kws dk) (hlen : LenIs ks.length dk) (hg : Gl X x := by rfl) (hdb : (x == ("__debug__" : Str)) = false := by decide) (hall : (backToKw pos (keywordEach kws X.env)).all (·.1.isSome) = true := by rfl) (hks : (backToKw pos (keywordEach kws X.env)).filterMap (·.1) = ks := by rfl)
    (hpl : ((backTo pos (starEach [] X.env)).any (·.1) || (backToKw pos (keywordEach kws X.env)).any (·.1.isNone)) = false := by rfl) : GE X W (.Call (.Name x p) [] kws pos) (dFnK ord ps.length fden dd dk) := by
  refine PE.imp (pe_kw0 tk hgd F hr hm hk hb hd hkw (len_imp hlen) hg hdb hall hks hpl) fun σ H Q ⟨B, F, env, ts, vs, R, q⟩ => ?_
  exact ⟨B, F, env, ts, vs, R, (ResP.bind q).mono (fun ds e1 q1 ws H1 F1 hl na R1 => kw_imp hdd hb.len R1 hl na q1) fun _ _ _ _ z => z⟩
theorem ge_kw {ord : List Nat} {dsv : List Value} {dvs : List V} {dd : List D} (tk : Takes X W) (hgd : X.A.guards = some []) (F : FnD X.prog X.w X.K X.mg X.base k f fd ps fden) (hr : Room k X.A) (hm : X.mg x = some (.ref f)) (hk : PySem.W.keepIn X.K (.ref f) = true) (hb : OrdB X.K fd ps ks ord (e :: es).length dsv) (hd : Vals dvs dsv) (hdd : ∀ F H, RpL X.K X.mg F H dd dvs [])
    (ha : GAU X W (e :: es) da) (hlena : LenIs (e :: es).length da) (hkw : GK X W kws dk) (hlen : LenIs ks.length dk) (hg : Gl X x := by rfl) (hdb : (x == ("__debug__" : Str)) = false := by decide) (hall : (backToKw pos (keywordEach kws X.env)).all (·.1.isSome) = true := by rfl) (hks : (backToKw pos (keywordEach kws X.env)).filterMap (·.1) = ks := by rfl)
    (he : starEach (e :: es) X.env = (false, eval e X.env) :: starEach es X.env := by rfl) (hpl : ((backTo pos (starEach (e :: es) X.env)).any (·.1) || (backToKw pos (keywordEach kws X.env)).any (·.1.isNone)) = false := by rfl) :
    GE X W (.Call (.Name x p) (e :: es) kws pos) (dFnK ord ps.length fden dd (dApp da dk)) := by
  refine PE.imp (pe_kw tk hgd F hr hm hk hb hd ha (len_imp hlena) hkw (len_imp hlen) hg hdb hall hks he hpl) fun σ H Q ⟨B, F, env, ts, vs, R, q⟩ => ?_
  refine ⟨B, F, env, ts, vs, R, (ResP.bind (ResP.bind q)).mono (fun ds e1 q1 ws H1 F1 hl na R1 => ?_) fun _ _ _ _ z => z⟩
  refine ⟨B, F1, e1, ts ++ ds, vs ++ ws, R1, (ResP.bind q1).mono (fun us e2 q2 zs H2 F2 hl2 na2 R2 => ?_) fun _ _ _ _ z => z.pop hl⟩
  rw [List.append_assoc, List.append_assoc] at R2
  exact kw_imp hdd hb.len R2 (by simp [hl, hl2]) (fun d hd => (List.mem_append.mp hd).elim (na d) (na2 d)) q2
end
end DL
set_option Elab.async false
set_option linter.all false
set_option maxRecDepth 100000
set_option maxHeartbeats 4000000
/-! DLo: words for the printed derivations. -/
namespace DL
open PySem L2
open PyProof.Rows (envOfC)

/-- sum of a list or a tuple of ints -/
def rSumA (K : PySem.W.Frag) : List V → Hp → VK → Prop := fun vs H Q => rSum K vs H Q ∨ ∃ (a : Addr) (ns : List Int), vs = [V.ref a] ∧ SqT K H a (ns.map V.int) ∧ Q (.int ns.sum) H
theorem cr_sumA {X : Cx} (hc : X.calm = true) : CallR X (.builtin "sum") (rSumA X.K) := by
  intro pins s σ H vs us Q I r h
  rcases h with h | ⟨a, ns, rfl, hs, q⟩
  · exact cr_sum hc pins s σ H vs us Q I r h
  · obtain ⟨its, rv, ⟨o, h1, h2, n, h3⟩, _⟩ := I.tuple hs
    rw [Vals.ref1 r]
    have hi := rv.ints
    obtain ⟨xs, hx⟩ := hi.allInts.items
    have hn : numsOf its.toArray.toList = ns := hi.numsOf
    have ht : s.heap.IsTuple a its.toArray := ⟨o, h1, h2, n, h3⟩
    rw [hx] at ht hn
    rw [PySem.nums_intItems] at hn
    refine PySem.W.ktm_sumG (I.ok.hd hc) ht fun h' tk t' hk => ?_
    rw [PySem.preSum_eq, List.take_of_length_le (by simp), hn]
    exact ⟨.int _, H, I.kept hk, ⟨_, rfl⟩, q⟩
def fSumA : List D → Option D
  | [.tup xs] => (asInts xs).map fun ns => .int ns.sum
  | ds => fSumL ds
theorem cs_sumA {K : PySem.W.Frag} {mg : Str → Option Value} : CaS K mg (rSumA K) fSumA := by
  intro B σ H F env ts vs dx vx d Q R h e k
  unfold fSumA at e
  split at e
  · obtain ⟨ns, hn, rfl⟩ := Option.map_eq_some_iff.mp e
    obtain ⟨v, S, rfl, rp⟩ := h.one
    rw [asInts_inv hn] at rp
    unfold Rp at rp
    obtain ⟨a, us, rfl, hl, hs⟩ := rp
    rw [hl.ofInts] at hs
    exact .inr ⟨a, ns, rfl, R.ex.sqT hs, k _ H F (R.push0 (Tm.of rp_int))⟩
  · exact .inl (cs_sum B σ H F env ts vs _ vx d Q R h e k)
/-- == and !=: texts by themselves, all else as data -/
def fEqS : D → D → Option D
  | .str i, .str j => some (.bl (i == j))
  | _, _ => none
def fNeS : D → D → Option D
  | .str i, .str j => some (.bl (!(i == j)))
  | _, _ => none
def fEqA : D → D → Option D := fOr fEqS fEq
def fNeA : D → D → Option D := fOr fNeS fNe
theorem os_eqS {K : PySem.W.Frag} {mg : Str → Option Value} : OpS K mg L2.rEq fEqS := by
  intro B σ H F env ts vs dx dy vx vy Sx Sy d Q R h1 h2 e k
  unfold fEqS at e
  split at e
  · cases e
    unfold Rp at h1 h2
    obtain ⟨rfl, _⟩ := h1
    obtain ⟨rfl, _⟩ := h2
    exact ⟨rfl, by rw [dec_str]; exact k _ H F (R.push0 (Tm.of rp_bl))⟩
  · cases e
theorem os_neS {K : PySem.W.Frag} {mg : Str → Option Value} : OpS K mg L2.rNe fNeS := by
  intro B σ H F env ts vs dx dy vx vy Sx Sy d Q R h1 h2 e k
  unfold fNeS at e
  split at e
  · cases e
    unfold Rp at h1 h2
    obtain ⟨rfl, _⟩ := h1
    obtain ⟨rfl, _⟩ := h2
    exact ⟨rfl, by rw [dec_str]; exact k _ H F (R.push0 (Tm.of rp_bl))⟩
  · cases e
theorem os_eqA {K : PySem.W.Frag} {mg : Str → Option Value} : OpS K mg (fun x y H Q => L2.rEq x y H Q ∨ L2.rEqD K x y H Q) fEqA := OpS.or os_eqS os_eq
theorem os_neA {K : PySem.W.Frag} {mg : Str → Option Value} : OpS K mg (fun x y H Q => L2.rNe x y H Q ∨ L2.rNeD K x y H Q) fNeA := OpS.or os_neS os_ne
theorem op_eqA {X : Cx} (hu : X.A.units + 64 < cLine) : OpR X (compareOp .Eq) (fun x y H Q => L2.rEq x y H Q ∨ L2.rEqD X.K x y H Q) := OpR.or op_eq (op_eqD hu)
theorem op_neA {X : Cx} (hu : X.A.units + 64 < cLine) : OpR X (compareOp .NotEq) (fun x y H Q => L2.rNe x y H Q ∨ L2.rNeD X.K x y H Q) := OpR.or op_ne (op_neD hu)
theorem fEqA_un1 (y : D) : fEqA .un y = none := by unfold fEqA fOr fEqS; exact fEq_un1 y
theorem fEqA_un2 (x : D) : fEqA x .un = none := by
  have : fEqS x .un = none := by cases x <;> rfl
  unfold fEqA fOr
  rw [this]
  exact fEq_un2 x
theorem fNeA_un1 (y : D) : fNeA .un y = none := by unfold fNeA fOr fNeS; exact fNe_un1 y
theorem fNeA_un2 (x : D) : fNeA x .un = none := by
  have : fNeS x .un = none := by cases x <;> rfl
  unfold fNeA fOr
  rw [this]
  exact fNe_un2 x
@[simp] theorem fEqA_int (i j : Int) : fEqA (.int i) (.int j) = some (.bl (i == j)) := rfl
@[simp] theorem fNeA_int (i j : Int) : fNeA (.int i) (.int j) = some (.bl (!(i == j))) := rfl
@[simp] theorem fEqA_str (i j : Str) : fEqA (.str i) (.str j) = some (.bl (i == j)) := rfl
@[simp] theorem fNeA_str (i j : Str) : fNeA (.str i) (.str j) = some (.bl (!(i == j))) := rfl
@[simp] theorem fEqA_bl (i j : Bool) : fEqA (.bl i) (.bl j) = some (.bl (i == j)) := rfl
@[simp] theorem fNeA_bl (i j : Bool) : fNeA (.bl i) (.bl j) = some (.bl (!(i == j))) := rfl
theorem fEqA_lst {o : Bool} {xs : List D} {y : D} : fEqA (.lst o xs) y = fEq (.lst o xs) y := rfl
theorem fNeA_lst {o : Bool} {xs : List D} {y : D} : fNeA (.lst o xs) y = fNe (.lst o xs) y := rfl
theorem fEqA_tup {xs : List D} {y : D} : fEqA (.tup xs) y = fEq (.tup xs) y := rfl
theorem fNeA_tup {xs : List D} {y : D} : fNeA (.tup xs) y = fNe (.tup xs) y := rfl
structure Has (P : Program) (w : World) (K : PySem.W.Frag) (mg : Str → Option Value) (base : Heap) (k : Nat) (x : Str) (ps : List Str) (fden : List D → FR) (dd : List D) : Prop where
  ex : ∃ f fd dvs dsv, FnD P w K mg base k f fd ps fden ∧ mg x = some (.ref f) ∧ PySem.W.keepIn K (.ref f) = true ∧ Binds K fd ps dsv ∧ Vals dvs dsv ∧ ∀ F H, RpL K mg F H dd dvs []
structure HasK (P : Program) (w : World) (K : PySem.W.Frag) (mg : Str → Option Value) (base : Heap) (k : Nat) (x : Str) (ps ks : List Str) (ord : List Nat) (m : Nat) (fden : List D → FR) (dd : List D) : Prop where
  ex : ∃ f fd dvs dsv, FnD P w K mg base k f fd ps fden ∧ mg x = some (.ref f) ∧ PySem.W.keepIn K (.ref f) = true ∧ OrdB K fd ps ks ord m dsv ∧ Vals dvs dsv ∧ ∀ F H, RpL K mg F H dd dvs []

section
variable {X : Cx} {W : WX} {P : List Nat} {k : Nat} {x : Str} {ps ks : List Str} {fden : List D → FR} {dd : List D} {p pos : Pos} {e a b : Expr} {es : List Expr} {kws : List Keyword} {da dk : Dn (List D)} {ord : List Nat}
theorem ge_fn (tk : Takes X W) (hgd : X.A.guards = some []) (h : Has X.prog X.w X.K X.mg X.base k x ps fden dd) (hr : Room k X.A) (ha : GA X W (e :: es) da) (hg : Gl X x := by rfl) (hdb : (x == ("__debug__" : Str)) = false := by decide)
    (he : starEach (e :: es) X.env = (false, eval e X.env) :: starEach es X.env := by rfl) (hpl : (backTo pos (starEach es X.env)).any (·.1) = false := by rfl) : GE X W (.Call (.Name x p) (e :: es) [] pos) (dFn ps.length fden dd da) := by
  obtain ⟨f, fd, dvs, dsv, F, hm, hk, hb, hd, hdd⟩ := h.ex
  exact ge_call tk hgd F hr hm hk hb hd hdd ha hg hdb he hpl
theorem ge_fnK0 (tk : Takes X W) (hgd : X.A.guards = some []) (h : HasK X.prog X.w X.K X.mg X.base k x ps ks ord 0 fden dd) (hr : Room k X.A) (hkw : GK X W kws dk) (hlen : LenIs ks.length dk) (hg : Gl X x := by rfl) (hdb : (x == ("__debug__" : Str)) = false := by decide)
    (hall : (backToKw pos (keywordEach kws X.env)).all (·.1.isSome) = true := by rfl) (hks : (backToKw pos (keywordEach kws X.env)).filterMap (·.1) = ks := by rfl)
    (hpl : ((backTo pos (starEach [] X.env)).any (·.1) || (backToKw pos (keywordEach kws X.env)).any (·.1.isNone)) = false := by rfl) : GE X W (.Call (.Name x p) [] kws pos) (dFnK ord ps.length fden dd dk) := by
  obtain ⟨f, fd, dvs, dsv, F, hm, hk, hb, hd, hdd⟩ := h.ex
  exact ge_kw0 tk hgd F hr hm hk hb hd hdd hkw hlen hg hdb hall hks hpl
theorem ge_fnK (tk : Takes X W) (hgd : X.A.guards = some []) (h : HasK X.prog X.w X.K X.mg X.base k x ps ks ord (e :: es).length fden dd) (hr : Room k X.A) (ha : GAU X W (e :: es) da) (hlena : LenIs (e :: es).length da) (hkw : GK X W kws dk) (hlen : LenIs ks.length dk) (hg : Gl X x := by rfl) (hdb : (x == ("__debug__" : Str)) = false := by decide)
    (hall : (backToKw pos (keywordEach kws X.env)).all (·.1.isSome) = true := by rfl) (hks : (backToKw pos (keywordEach kws X.env)).filterMap (·.1) = ks := by rfl)
    (he : starEach (e :: es) X.env = (false, eval e X.env) :: starEach es X.env := by rfl) (hpl : ((backTo pos (starEach (e :: es) X.env)).any (·.1) || (backToKw pos (keywordEach kws X.env)).any (·.1.isNone)) = false := by rfl) :
    GE X W (.Call (.Name x p) (e :: es) kws pos) (dFnK ord ps.length fden dd (dApp da dk)) := by
  obtain ⟨f, fd, dvs, dsv, F, hm, hk, hb, hd, hdd⟩ := h.ex
  exact ge_kw tk hgd F hr hm hk hb hd hdd ha hlena hkw hlen hg hdb hall hks he hpl
theorem ge_len (z : X.mg "len" = none) (ha : GA X W [e] da) (hg : Gl X "len" := by rfl) (he : starEach [e] X.env = (false, eval e X.env) :: starEach [] X.env := by rfl) (hpl : (backTo pos (starEach [] X.env)).any (·.1) = false := by rfl) : GE X W (.Call (.Name "len" p) [e] [] pos) (dCall fLen da) :=
  ge_callB call_len_seq cs_len z rfl ha hg (by decide) (by decide) he hpl
theorem ge_sum (z : X.mg "sum" = none) (hc : X.calm = true) (ha : GA X W [e] da) (hg : Gl X "sum" := by rfl) (he : starEach [e] X.env = (false, eval e X.env) :: starEach [] X.env := by rfl) (hpl : (backTo pos (starEach [] X.env)).any (·.1) = false := by rfl) : GE X W (.Call (.Name "sum" p) [e] [] pos) (dCall fSumA da) :=
  ge_callB (cr_sumA hc) cs_sumA z rfl ha hg (by decide) (by decide) he hpl
theorem ge_sorted (z : X.mg "sorted" = none) (ha : GA X W [e] da) (hg : Gl X "sorted" := by rfl) (he : starEach [e] X.env = (false, eval e X.env) :: starEach [] X.env := by rfl) (hpl : (backTo pos (starEach [] X.env)).any (·.1) = false := by rfl) : GE X W (.Call (.Name "sorted" p) [e] [] pos) (dCall fSorted da) :=
  ge_callB cr_sortedI cs_sorted z rfl ha hg (by decide) (by decide) he hpl
theorem ge_repr (z : X.mg "repr" = none) (hgd : X.A.guards = some []) (hu : X.A.units + 66 < cLine) (ha : GA X W [e] da) (hg : Gl X "repr" := by rfl) (he : starEach [e] X.env = (false, eval e X.env) :: starEach [] X.env := by rfl) (hpl : (backTo pos (starEach [] X.env)).any (·.1) = false := by rfl) : GE X W (.Call (.Name "repr" p) [e] [] pos) (dCall fRepr da) :=
  ge_callB (call_reprD hgd hu) cs_repr z rfl ha hg (by decide) (by decide) he hpl
theorem ge_min2 (z : X.mg "min" = none) (hc : X.calm = true) (ha : GA X W [a, b] da) (hg : Gl X "min" := by rfl) (he : starEach [a, b] X.env = (false, eval a X.env) :: starEach [b] X.env := by rfl) (hpl : (backTo pos (starEach [b] X.env)).any (·.1) = false := by rfl) : GE X W (.Call (.Name "min" p) [a, b] [] pos) (dCall fMin2 da) :=
  ge_callB (call_min2 hc) cs_min2 z rfl ha hg (by decide) (by decide) he hpl
theorem ge_max2 (z : X.mg "max" = none) (hc : X.calm = true) (ha : GA X W [a, b] da) (hg : Gl X "max" := by rfl) (he : starEach [a, b] X.env = (false, eval a X.env) :: starEach [b] X.env := by rfl) (hpl : (backTo pos (starEach [b] X.env)).any (·.1) = false := by rfl) : GE X W (.Call (.Name "max" p) [a, b] [] pos) (dCall fMax2 da) :=
  ge_callB (call_max2 hc) cs_max2 z rfl ha hg (by decide) (by decide) he hpl
theorem ge_intc (z : X.mg "int" = none) (ha : GA X W [e] da) (hg : Gl X "int" := by rfl) (he : starEach [e] X.env = (false, eval e X.env) :: starEach [] X.env := by rfl) (hpl : (backTo pos (starEach [] X.env)).any (·.1) = false := by rfl) : GE X W (.Call (.Name "int" p) [e] [] pos) (dCall fInt1 da) :=
  ge_callTy call_int1 cs_int1 z rfl ha hg (by decide) (by decide) he hpl
theorem ge_listc (z : X.mg "list" = none) (ha : GA X W [e] da) (hg : Gl X "list" := by rfl) (he : starEach [e] X.env = (false, eval e X.env) :: starEach [] X.env := by rfl) (hpl : (backTo pos (starEach [] X.env)).any (·.1) = false := by rfl) : GE X W (.Call (.Name "list" p) [e] [] pos) (dCall fList da) :=
  ge_callTy call_list_of cs_list z rfl ha hg (by decide) (by decide) he hpl
theorem ge_tuplec (z : X.mg "tuple" = none) (ha : GA X W [e] da) (hg : Gl X "tuple" := by rfl) (he : starEach [e] X.env = (false, eval e X.env) :: starEach [] X.env := by rfl) (hpl : (backTo pos (starEach [] X.env)).any (·.1) = false := by rfl) : GE X W (.Call (.Name "tuple" p) [e] [] pos) (dCall fTuple da) :=
  ge_callTy call_tuple_of cs_tuple z rfl ha hg (by decide) (by decide) he hpl
theorem ge_glob {x : Str} {i : Int} {pos : Pos} (hm : ∃ t, X.mg x = some (.int i t)) (hg : Gl X x := by rfl) (hd : (x == ("__debug__" : Str)) = false := by decide) : GE X W (.Name x pos) (dC (.int i)) :=
  let ⟨_, h⟩ := hm; ge_gint h hg hd
end
section
variable {P : Program} {w : World} {K : PySem.W.Frag} {mg : Str → Option Value} {base : Heap} {N : List Str} {qual : Str} {scope : Scope} {f : Addr} {cd : Value} {A : Around} {outer : List Env} {s : Shared} {H : Hp} {E : XK}
theorem tkx : Takes (cxOf (L2.CX P w) P w K mg base N qual scope f cd A outer s H E) (fun cls dx _ H' => E cls dx H') := takes_of rfl rfl rfl rfl
theorem pox : PassesOwn (model P w) (cxOf (L2.CX P w) P w K mg base N qual scope f cd A outer s H E).A (cxOf (L2.CX P w) P w K mg base N qual scope f cd A outer s H E).env (cxOf (L2.CX P w) P w K mg base N qual scope f cd A outer s H E).xe :=
  passes_of (X := cxOf (L2.CX P w) P w K mg base N qual scope f cd A outer s H E) (K := fun e s'' => L2.CX P w outer H s E e s'') rfl
end
theorem hu1 {A : Around} {k : Nat} (hr : Room k A) : A.units + 1 < cLine := by have := hr.un; omega
theorem hu64 {A : Around} {k : Nat} (hr : Room k A) : A.units + 64 < cLine := by have := hr.un; omega
theorem hu66 {A : Around} {k : Nat} (hr : Room k A) : A.units + 66 < cLine := by have := hr.un; omega
/-! ### classes of errors -/
abbrev veMro : List Value := [.type "ValueError", .type "Exception", .type "BaseException", .type "object"]
/-- a class without own __init__ that is raised -/
structure ExcR (K : PySem.W.Frag) (mg : Str → Option Value) (x : Str) : Prop where
  ex : ∃ C, mg x = some (.ref C) ∧ PySem.W.excIn K C veMro "ValueError.__new__" = true ∧ PySem.W.keepIn K (.ref C) = true ∧ PySem.W.subIn K (.ref C) (.type "BaseException") = some true ∧ PySem.W.typeIn K (.ref C) = some (.type "type")
/-- a clause's class: which classes it takes -/
structure TryT (K : PySem.W.Frag) (mg : Str → Option Value) (h : Str) (tb : List (Str × Bool)) : Prop where
  ex : ∃ C, mg h = some (.ref C) ∧ ∀ cl y, tb.lookup cl = some y → ∀ D, mg cl = some (.ref D) → PySem.W.exmOne K (.ref D) (.ref C) = some y
/-- a class asked after by isinstance -/
structure IsiT (K : PySem.W.Frag) (mg : Str → Option Value) (h : Str) (tb : List (Str × Bool)) (tt : List String) : Prop where
  ex : ∃ C, mg h = some (.ref C) ∧ (∀ c b, tb.lookup c = some b → ∀ D, mg c = some (.ref D) → ExcK K D ∧ PySem.W.kitOne K (.ref D) (.ref C) = some b) ∧ ∀ t, t ∈ tt → PySem.W.kitOne K (.type t) (.ref C) = some false
section
variable {X : Cx} {W Wout : WX} {P : List Nat} {x m n y : Str} {j : Nat} {p p2 pos pos2 pos' np : Pos} {e : Expr} {da : Dn D} {tb : List (Str × Bool)} {tt : List String} {body suite : List Stmt} {b₀ : Stmt} {b k : Sn}
theorem gs_raiseR (hc : X.calm = true) (tk : Takes X W) (h : ExcR X.K X.mg x) (hg : Gl X x := by rfl) (hdb : (x == ("__debug__" : Str)) = false := by decide) :
    GS X W P (.Raise (some (.Call (.Name x p) [.Constant (.str m) j p2] [] pos)) none pos2) (nRaise x) := by
  obtain ⟨C, h1, h2, h3, h4, h5⟩ := h.ex
  exact gs_raise hc tk PySem.F.excBase_ValueError h2 h1 h3 h4 h5 hg hdb
theorem gs_tryT (i : Nat) (h : TryT X.K X.mg x tb) (hs : X.stack = X.env :: X.outer) (hf : X.env.frame = some X.env.locals) (hN : X.N.Nodup) (tk : Takes X Wout)
    (hb : ∀ (W : WX) (pn : List (Addr × Obj)) (xe : Value → Shared → Prop), Takes (X.tr pn xe) W → PassesOwn (model X.prog X.w) X.A X.env xe → GSs (X.tr pn xe) W P body b)
    (hsu : ∀ (a : Addr) (pn : List (Addr × Obj)), GSs (X.suite a pn) WF P (b₀ :: suite) k) (hi : X.N[i]? = some n := by rfl) (hln : X.env.kindOf n = some .local := by rfl) (hp : P.contains i = false := by rfl) (hg : Gl X x := by rfl) (hdb : (x == ("__debug__" : Str)) = false := by decide) :
    GS X Wout P (.Try body [.ExceptHandler (some (.Name x np)) (some n) (b₀ :: suite) pos'] [] [] pos) (nTry i tb b k) := by
  obtain ⟨C, h1, h2⟩ := h.ex
  exact gs_try (c := .ref C) i tb h2 hs hf hN ⟨hg, hdb, .inl h1⟩ tk hb hsu hi hln hp
theorem ge_isiT (he : GE X W e da) (hm : X.mg "isinstance" = none) (h : IsiT X.K X.mg y tb tt) (hg : Gl X "isinstance" := by rfl) (hgy : Gl X y := by rfl) (hyd : (y == ("__debug__" : Str)) = false := by decide)
    (hs : starEach [e, .Name y p2] X.env = (false, eval e X.env) :: starEach [.Name y p2] X.env := by rfl) (hs2 : starEach [.Name y p2] X.env = (false, eval (.Name y p2) X.env) :: starEach [] X.env := by rfl) (hpl : (backTo pos (starEach [.Name y p2] X.env)).any (·.1) = false := by rfl) :
    GE X W (.Call (.Name "isinstance" p) [e, .Name y p2] [] pos) (dUn (fIsE tb tt) da) := by
  obtain ⟨C, h1, h2, h3⟩ := h.ex
  exact ge_isiE he hm h1 h2 h3 hg hgy hyd hs hs2 hpl
end
end DL
set_option Elab.async false
set_option linter.all false
set_option maxRecDepth 100000
set_option maxHeartbeats 4000000
/-! DLp: the four functions that every law has, and what they answer. -/
namespace DL
open PySem L2

def begT : Dn Bool := (dTest (dOp fGe (dVar 2) (dOp fPow (dC (.int 10)) (dC (.int 18)))))
def begE : Dn D := (dOp fSub (dVar 2) (dOp fPow (dC (.int 10)) (dC (.int 18))))
def b__law_begun : Sn := nSeq (nAsg 1 (dLc [2] (itLst (dVar 0)) (tgName 2) begT begE))
  (nRet (dDisp [(dC (.str "great"), dMv 1), (dC (.str "cells"), dFz (dU (dCall fList (dCons (dVar 0) (dNil))))), (dC (.str "rest"), dC (.int 0)), (dC (.str "turn"), dC (.int 0))]))
def f__law_begun : List D → FR := fdOf [0] 3 b__law_begun
def mixIn : Sn := nAsg 4 (dOp fMod (dCall fInt1 (dCons (dOp fAdd (dOp fMul (dVar 4) (dC (.int 48271))) (dVar 5)) (dNil))) (dVar 3))
def mixOut : Sn := nSeq (nAsg 4 (dOp fAdd (dOp fMul (dC (.int 130363)) (dVar 1)) (dOp fDiv (dVar 3) (dC (.int 13)))))
  (nSeq (nFor (itLst (dOp fGet (dVar 0) (dC (.str "cells")))) (tgName 5)
  mixIn)
  (nAsg 2 (dOp fAdd (dOp fMul (dVar 2) (dC (.int 2147483647))) (dOp fMod (dCall fInt1 (dCons (dOp fPow (dVar 4) (dC (.int 5))) (dNil))) (dVar 3)))))
def b__law_mixed : Sn := nSeq (nAsg 1 (dOp fAdd (dOp fGet (dVar 0) (dC (.str "turn"))) (dC (.int 1))))
  (nSeq (nDput (dVar 1) (dVar 0) (dC (.str "turn")))
  (nSeq (nAsg 2 (dC (.int 0)))
  (nSeq (nFor (itLst (dLst (dCons (dU (dC (.int 2147483629))) (dCons (dU (dC (.int 2147483587))) (dCons (dU (dC (.int 2147483579))) (dCons (dU (dC (.int 2147483563))) (dCons (dU (dC (.int 2147483549))) (dCons (dU (dC (.int 2147483543))) (dNil))))))))) (tgName 3)
  mixOut)
  (nRet (dVar 2)))))
def f__law_mixed : List D → FR := fdOf [0] 6 b__law_mixed
def b__law_take : Sn := nSeq (nIf (dAnd (dTest (dOp fEqA (dOp fGet (dVar 0) (dC (.str "rest"))) (dC (.int 0)))) (dNeNil 0 (.inr "great")))
  (nDput (dPop0 0 (.inr "great")) (dVar 0) (dC (.str "rest")))
  (nIf (dTest (dOp fEqA (dOp fGet (dVar 0) (dC (.str "rest"))) (dC (.int 0))))
  (nDput (dFn 1 f__law_mixed [] (dCons (dVar 0) (dNil))) (dVar 0) (dC (.str "rest")))
  (nSkip)))
  (nSeq (nAsg 2 (dOp fMod (dCall fInt1 (dCons (dOp fGet (dVar 0) (dC (.str "rest"))) (dNil))) (dVar 1)))
  (nSeq (nDput (dOp fDiv (dOp fGet (dVar 0) (dC (.str "rest"))) (dVar 1)) (dVar 0) (dC (.str "rest")))
  (nRet (dVar 2))))
def f__law_take : List D → FR := fdOf [0, 1] 3 b__law_take
def b__law_pick : Sn := nRet (dOp fIx (dVar 1) (dFn 2 f__law_take [] (dCons (dVar 0) (dCons (dCall fLen (dCons (dVar 1) (dNil))) (dNil)))))
def f__law_pick : List D → FR := fdOf [0, 1] 2 b__law_pick

/-! ### equations -/
section
variable {i : Nat} {b o : Bool} {j : Int} {x c : Str} {xs ys ds : List D} {ks : List Key} {ns : List Str} {ms : List Int} {env ps : List D} {d p : D}
@[simp] theorem isUn_un : isUn (.un) = true := by unfold isUn; rfl
@[simp] theorem isSl_un : isSl (.un) = false := by unfold isSl; rfl
@[simp] theorem isUn_sl : isUn (.sl i) = false := by unfold isUn; rfl
@[simp] theorem isSl_sl : isSl (.sl i) = true := by unfold isSl; rfl
@[simp] theorem isUn_non : isUn (.non) = false := by unfold isUn; rfl
@[simp] theorem isSl_non : isSl (.non) = false := by unfold isSl; rfl
@[simp] theorem isUn_bl : isUn (.bl b) = false := by unfold isUn; rfl
@[simp] theorem isSl_bl : isSl (.bl b) = false := by unfold isSl; rfl
@[simp] theorem isUn_int : isUn (.int j) = false := by unfold isUn; rfl
@[simp] theorem isSl_int : isSl (.int j) = false := by unfold isSl; rfl
@[simp] theorem isUn_stDr : isUn (.str x) = false := by unfold isUn; rfl
@[simp] theorem isSl_stDr : isSl (.str x) = false := by unfold isSl; rfl
@[simp] theorem isUn_lst : isUn (.lst o xs) = false := by unfold isUn; rfl
@[simp] theorem isSl_lst : isSl (.lst o xs) = false := by unfold isSl; rfl
@[simp] theorem isUn_tup : isUn (.tup xs) = false := by unfold isUn; rfl
@[simp] theorem isSl_tup : isSl (.tup xs) = false := by unfold isSl; rfl
@[simp] theorem isUn_dct : isUn (.dct o ks xs) = false := by unfold isUn; rfl
@[simp] theorem isSl_dct : isSl (.dct o ks xs) = false := by unfold isSl; rfl
@[simp] theorem isUn_obj : isUn (.obj o c ns xs) = false := by unfold isUn; rfl
@[simp] theorem isSl_obj : isSl (.obj o c ns xs) = false := by unfold isSl; rfl
@[simp] theorem isUn_exc : isUn (.exc c ns xs) = false := by unfold isUn; rfl
@[simp] theorem isSl_exc : isSl (.exc c ns xs) = false := by unfold isSl; rfl
@[simp] theorem isUn_scr : isUn (.scr ms) = false := by unfold isUn; rfl
@[simp] theorem isSl_scr : isSl (.scr ms) = false := by unfold isSl; rfl
@[simp] theorem froz_un : froz (.un) = false := by unfold froz; rfl
@[simp] theorem fz_un : fz (.un) = (.un) := by unfold fz; rfl
@[simp] theorem froz_slE : froz (.sl i) = false := by unfold froz; rfl
@[simp] theorem fz_slE : fz (.sl i) = (.sl i) := by unfold fz; rfl
@[simp] theorem froz_non : froz (.non) = true := by unfold froz; rfl
@[simp] theorem fz_non : fz (.non) = (.non) := by unfold fz; rfl
@[simp] theorem froz_bl : froz (.bl b) = true := by unfold froz; rfl
@[simp] theorem fz_bl : fz (.bl b) = (.bl b) := by unfold fz; rfl
@[simp] theorem froz_int : froz (.int j) = true := by unfold froz; rfl
@[simp] theorem fz_int : fz (.int j) = (.int j) := by unfold fz; rfl
@[simp] theorem froz_stDr : froz (.str x) = true := by unfold froz; rfl
@[simp] theorem fz_str : fz (.str x) = (.str x) := by unfold fz; rfl
@[simp] theorem froz_lst : froz (.lst o xs) = (!o && frozL xs) := by unfold froz; rfl
@[simp] theorem fz_lst : fz (.lst o xs) = .lst false (fzL xs) := by unfold fz; rfl
@[simp] theorem froz_tup : froz (.tup xs) = frozL xs := by unfold froz; rfl
@[simp] theorem fz_tup : fz (.tup xs) = .tup (fzL xs) := by unfold fz; rfl
@[simp] theorem froz_dct : froz (.dct o ks xs) = (!o && frozL xs) := by unfold froz; rfl
@[simp] theorem fz_dct : fz (.dct o ks xs) = .dct false ks (fzL xs) := by unfold fz; rfl
@[simp] theorem froz_obj : froz (.obj o c ns xs) = (!o && frozL xs) := by unfold froz; rfl
@[simp] theorem fz_obj : fz (.obj o c ns xs) = .obj false c ns (fzL xs) := by unfold fz; rfl
@[simp] theorem froz_exc : froz (.exc c ns xs) = true := by unfold froz; rfl
@[simp] theorem fz_exc : fz (.exc c ns xs) = (.exc c ns xs) := by unfold fz; rfl
@[simp] theorem froz_scr : froz (.scr ms) = true := by unfold froz; rfl
@[simp] theorem fz_scr : fz (.scr ms) = (.scr ms) := by unfold fz; rfl
@[simp] theorem tyD_un : tyD (.un) = none := by unfold tyD; rfl
@[simp] theorem isNone_un : isNone (.un) = false := by unfold isNone; rfl
@[simp] theorem tyD_sl : tyD (.sl i) = none := by unfold tyD; rfl
@[simp] theorem isNone_sl : isNone (.sl i) = false := by unfold isNone; rfl
@[simp] theorem tyD_non : tyD (.non) = some "NoneType" := by unfold tyD; rfl
@[simp] theorem isNone_non : isNone (.non) = true := by unfold isNone; rfl
@[simp] theorem tyD_bl : tyD (.bl b) = some "bool" := by unfold tyD; rfl
@[simp] theorem isNone_bl : isNone (.bl b) = false := by unfold isNone; rfl
@[simp] theorem tyD_int : tyD (.int j) = some "int" := by unfold tyD; rfl
@[simp] theorem isNone_int : isNone (.int j) = false := by unfold isNone; rfl
@[simp] theorem tyD_str : tyD (.str x) = some "str" := by unfold tyD; rfl
@[simp] theorem isNone_str : isNone (.str x) = false := by unfold isNone; rfl
@[simp] theorem tyD_lst : tyD (.lst o xs) = some "list" := by unfold tyD; rfl
@[simp] theorem isNone_lst : isNone (.lst o xs) = false := by unfold isNone; rfl
@[simp] theorem tyD_tup : tyD (.tup xs) = some "tuple" := by unfold tyD; rfl
@[simp] theorem isNone_tup : isNone (.tup xs) = false := by unfold isNone; rfl
@[simp] theorem tyD_dct : tyD (.dct o ks xs) = some "dict" := by unfold tyD; rfl
@[simp] theorem isNone_dct : isNone (.dct o ks xs) = false := by unfold isNone; rfl
@[simp] theorem tyD_obj : tyD (.obj o c ns xs) = none := by unfold tyD; rfl
@[simp] theorem isNone_obj : isNone (.obj o c ns xs) = false := by unfold isNone; rfl
@[simp] theorem tyD_exc : tyD (.exc c ns xs) = none := by unfold tyD; rfl
@[simp] theorem isNone_exc : isNone (.exc c ns xs) = false := by unfold isNone; rfl
@[simp] theorem tyD_scr : tyD (.scr ms) = none := by unfold tyD; rfl
@[simp] theorem isNone_scr : isNone (.scr ms) = false := by unfold isNone; rfl
@[simp] theorem frozL_nil : frozL [] = true := by unfold frozL; rfl
@[simp] theorem frozL_cons : frozL (d :: ds) = (froz d && frozL ds) := by conv => lhs; unfold frozL
@[simp] theorem fzL_nil : fzL [] = [] := by unfold fzL; rfl
@[simp] theorem fzL_cons : fzL (d :: ds) = fz d :: fzL ds := by conv => lhs; unfold fzL
@[simp] theorem rs_sl : rs env (.sl i) = env.getD i .un := rfl
@[simp] theorem rs_n (h : isSl d = false) : rs env d = d := by cases d <;> first | rfl | cases h
@[simp] theorem dUse_sl : dUse (.sl i) env = if isUn (env.getD i .un) || isSl (fz (env.getD i .un)) then .no else .ok (fz (env.getD i .un)) (env.set i (fz (env.getD i .un))) := rfl
@[simp] theorem dUse_n (h : isSl d = false) : dUse d env = .ok d env := by cases d <;> first | rfl | cases h
@[simp] theorem retD_sl : retD (.sl i) env = if isUn (env.getD i .un) || isSl (env.getD i .un) then .no else .rt (env.getD i .un) (env.set i .un) := rfl
@[simp] theorem retD_n (h : isSl d = false) : retD d env = .rt d env := by cases d <;> first | rfl | cases h
@[simp] theorem takeA_nil : takeA [] env = some ([], env) := rfl
@[simp] theorem takeA_sl : takeA (.sl i :: ds) env = (match takeA ds env with
    | none => none
    | some (xs, e1) => if isUn (e1.getD i .un) then none else some (e1.getD i .un :: xs, e1.set i .un)) := by
  conv => lhs; unfold takeA
  all_goals (cases takeA ds env <;> rfl)
@[simp] theorem takeA_n (h : isSl d = false) : takeA (d :: ds) env = (match takeA ds env with
    | none => none
    | some (xs, e1) => some (d :: xs, e1)) := by
  conv => lhs; unfold takeA
  all_goals (cases takeA ds env with
    | none => rfl
    | some p => cases d <;> first | rfl | cases h)
@[simp] theorem putA_nil : putA [] ps env = env := by unfold putA; cases ps <;> rfl
@[simp] theorem putA_nil2 : putA ds [] env = env := by unfold putA; cases ds <;> rfl
@[simp] theorem putA_sl : putA (.sl i :: ds) (p :: ps) env = putA ds ps (if isUn p then env else env.set i p) := by
  conv => lhs; unfold putA
@[simp] theorem putA_n (h : isSl d = false) : putA (d :: ds) (p :: ps) env = putA ds ps env := by
  conv => lhs; unfold putA
  all_goals (cases d <;> first | rfl | cases h)
@[simp] theorem asKey_int : asKey (.int j) = some (.inl j) := rfl
@[simp] theorem asKey_str : asKey (.str x) = some (.inr x) := rfl
@[simp] theorem asBool_bl : asBool (.bl b) = some b := rfl
@[simp] theorem fIs_non (h : isUn d = false) : fIs d .non = some (.bl (isNone d)) := by cases d <;> first | rfl | cases h
@[simp] theorem fIsN_non (h : isUn d = false) : fIsN d .non = some (.bl (!isNone d)) := by cases d <;> first | rfl | cases h
end
section
variable {i j : Int} {o o' : Bool} {xs ys : List D} {ms : List Int} {b : Bool}
@[simp] theorem fAdd_int : fAdd (.int i) (.int j) = some (.int (i + j)) := rfl
@[simp] theorem fSub_int : fSub (.int i) (.int j) = some (.int (i - j)) := rfl
@[simp] theorem fMul_int : fMul (.int i) (.int j) = if cMul i j then some (.int (i * j)) else fRep (.int i) (.int j) := by
  unfold fMul fOr fIntC
  dsimp only
  split
  · rename_i h; split at h
    · rename_i c; cases h; rw [if_pos c]
    · cases h
  · rename_i h; split at h
    · cases h
    · rename_i c; rw [if_neg c]
@[simp] theorem fDiv_int : fDiv (.int i) (.int j) = if cDivW i j then some (.int (i / j)) else none := rfl
@[simp] theorem fMod_int : fMod (.int i) (.int j) = if decide (0 < j) then some (.int (i % j)) else none := rfl
@[simp] theorem fPow_int : fPow (.int i) (.int j) = if cPow i j then some (.int (i ^ j.toNat)) else none := rfl
@[simp] theorem fLt_int : fLt (.int i) (.int j) = some (.bl (decide (i < j))) := rfl
@[simp] theorem fLe_int : fLe (.int i) (.int j) = some (.bl (decide (i ≤ j))) := rfl
@[simp] theorem fGt_int : fGt (.int i) (.int j) = some (.bl (decide (j < i))) := rfl
@[simp] theorem fGe_int : fGe (.int i) (.int j) = some (.bl (decide (j ≤ i))) := rfl
@[simp] theorem fNeg_int : fNeg (.int i) = some (.int (-i)) := rfl
@[simp] theorem fMin2_int : fMin2 [.int i, .int j] = some (.int (if j < i then j else i)) := rfl
@[simp] theorem fMax2_int : fMax2 [.int i, .int j] = some (.int (if j > i then j else i)) := rfl
@[simp] theorem fInt1_int : fInt1 [.int i] = some (.int i) := rfl
@[simp] theorem fInt1_bl : fInt1 [.bl b] = some (.int (if b then 1 else 0)) := rfl
@[simp] theorem fLen_lst : fLen [.lst o xs] = some (.int xs.length) := rfl
@[simp] theorem fLen_tup : fLen [.tup xs] = some (.int xs.length) := rfl
@[simp] theorem fLen_scr : fLen [.scr ms] = some (.int ms.length) := rfl
@[simp] theorem fList_lst : fList [.lst o xs] = if frozL xs then some (.lst true xs) else none := rfl
@[simp] theorem fList_tup : fList [.tup xs] = if frozL xs then some (.lst true xs) else none := rfl
@[simp] theorem fList_scr : fList [.scr ms] = some (.lst true (ms.map .int)) := rfl
@[simp] theorem fTuple_lst : fTuple [.lst o xs] = if frozL xs then some (.tup xs) else none := rfl
@[simp] theorem fTuple_tup : fTuple [.tup xs] = if frozL xs then some (.tup xs) else none := rfl
@[simp] theorem fIx_lst : fIx (.lst o xs) (.int i) = (atI xs i).bind fun d => if froz d then some d else none := rfl
@[simp] theorem fIx_tup : fIx (.tup xs) (.int i) = (atI xs i).bind fun d => if froz d then some d else none := rfl
@[simp] theorem setL_lst {u : D} : setL (.lst true xs) (.int i) u = (ixN xs.length i).map fun j => .lst true (xs.set j u) := rfl
@[simp] theorem fEq_int : fEq (.int i) (.int j) = some (.bl (i == j)) := rfl
@[simp] theorem fNe_int : fNe (.int i) (.int j) = some (.bl (!(i == j))) := rfl
@[simp] theorem fEq_bl {c : Bool} : fEq (.bl b) (.bl c) = some (.bl (b == c)) := rfl
end

@[simp] theorem ite_app {β : Type} {c : Prop} [Decidable c] (f g : List D → β) (e : List D) : (if c then f else g) e = if c then f e else g e := by split <;> rfl
@[simp] theorem ite_ok {α : Type} {c : Prop} [Decidable c] {x y : α} {e : List D} : (if c then Res.ok x e else Res.ok y e) = Res.ok (if c then x else y) e := by split <;> rfl
/-! ### the state -/
def stK : List Key := [.inr "great", .inr "cells", .inr "rest", .inr "turn"]
def stD (g c : List Int) (r t : Int) : D := .dct true stK [.lst true (g.map .int), .lst false (c.map .int), .int r, .int t]
@[simp] theorem frozL_int (ns : List Int) : frozL (ns.map .int) = true := frozL_ints ns
@[simp] theorem fzL_int : ∀ ns : List Int, fzL (ns.map .int) = ns.map .int
  | [] => rfl
  | n :: ns => by rw [List.map_cons]; unfold fzL; rw [fzL_int ns]; rfl
theorem k_rest : kIx stK (.inr "rest") = some 2 := by decide +kernel
theorem k_turn : kIx stK (.inr "turn") = some 3 := by decide +kernel
theorem k_great : kIx stK (.inr "great") = some 0 := by decide +kernel
theorem k_cells : kIx stK (.inr "cells") = some 1 := by decide +kernel
theorem stK_nd : stK.Nodup := by decide +kernel
section
variable {g c : List Int} {r t u : Int}
@[simp] theorem froz_stD : froz (stD g c r t) = false := by unfold stD froz; rfl
@[simp] theorem isUn_stD : isUn (stD g c r t) = false := by unfold stD isUn; rfl
@[simp] theorem isSl_stD : isSl (stD g c r t) = false := by unfold stD isSl; rfl
@[simp] theorem get_rest : fGet (stD g c r t) (.str "rest") = some (.int r) := by
  show (kIx stK (.inr "rest")).bind (fun i => ([.lst true (g.map .int), .lst false (c.map .int), .int r, .int t] : List D)[i]?.bind fun d => if froz d = true then some d else none) = _
  rw [k_rest]
  rfl
@[simp] theorem get_turn : fGet (stD g c r t) (.str "turn") = some (.int t) := by
  show (kIx stK (.inr "turn")).bind (fun i => ([.lst true (g.map .int), .lst false (c.map .int), .int r, .int t] : List D)[i]?.bind fun d => if froz d = true then some d else none) = _
  rw [k_turn]
  rfl
@[simp] theorem get_cells : fGet (stD g c r t) (.str "cells") = some (.lst false (c.map .int)) := by
  show (kIx stK (.inr "cells")).bind (fun i => ([.lst true (g.map .int), .lst false (c.map .int), .int r, .int t] : List D)[i]?.bind fun d => if froz d = true then some d else none) = _
  rw [k_cells]
  show (if (!false && frozL (c.map .int)) = true then _ else _) = _
  rw [frozL_ints]
  rfl
@[simp] theorem put_rest : DL.putD (stD g c r t) (.inr "rest") (.int u) = some (stD g c u t) := by
  unfold stD DL.putD
  dsimp only
  rw [k_rest]
  dsimp only
  rw [decide_eq_true stK_nd]
  rfl
@[simp] theorem put_turn : DL.putD (stD g c r t) (.inr "turn") (.int u) = some (stD g c r u) := by
  unfold stD DL.putD
  dsimp only
  rw [k_turn]
  dsimp only
  rw [decide_eq_true stK_nd]
  rfl
@[simp] theorem sub_great : subL (stD g c r t) (.inr "great") = some (0, g.map .int) := by
  unfold stD subL
  dsimp only
  rw [k_great]
  rfl
@[simp] theorem set_great {g' : List Int} : setSub (stD g c r t) 0 (.lst true (g'.map .int)) = stD g' c r t := rfl
end
@[simp] theorem asInts_nil : asInts [] = some [] := rfl
@[simp] theorem asInts_cons {n : Int} {ds : List D} : asInts (.int n :: ds) = (asInts ds).map (n :: ·) := by conv => lhs; unfold asInts
@[simp] theorem asInts_m (ns : List Int) : asInts (ns.map .int) = some ns := asInts_map ns
theorem cDivW_ok {i j : Int} (h : 0 < j) (h2 : j < 18446744073709551616) : cDivW i j = true := by
  unfold cDivW
  rw [Bool.and_eq_true, decide_eq_true_eq, decide_eq_true_eq]
  refine ⟨h, ?_⟩
  by_cases h0 : j.natAbs = 0
  · omega
  · have : j.natAbs.log2 < 64 := (Nat.log2_lt h0).mpr (by omega)
    omega
/-! ### loops -/
theorem forD_ok {tg : D → List D → Option (List D)} {body : Sn} (I : Nat → List D → Prop) : ∀ (xs : List D) (n : Nat) (env : List D), I n env →
    (∀ (k : Nat) (x : D) (e : List D), x ∈ xs → n ≤ k → k < n + xs.length → I k e → ∃ e1 e2, tg x e = some e1 ∧ (body e1 = .nx e2 ∨ body e1 = .ct e2) ∧ I (k + 1) e2) → ∃ e, forD tg body xs env = .nx e ∧ I (n + xs.length) e
  | [], n, env, h0, _ => ⟨env, rfl, h0⟩
  | x :: xs, n, env, h0, h => by
    obtain ⟨e1, e2, h1, h2, h3⟩ := h n x env List.mem_cons_self (Nat.le_refl _) (by simp) h0
    obtain ⟨e, h4, h5⟩ := forD_ok I xs (n + 1) e2 h3 fun k y e' hy hk hk2 hI => h k y e' (List.mem_cons_of_mem _ hy) (by omega) (by simp; omega) hI
    refine ⟨e, ?_, by rw [List.length_cons, show n + (xs.length + 1) = n + 1 + xs.length by omega]; exact h5⟩
    unfold forD
    rw [h1]
    rcases h2 with h2 | h2
    · dsimp only; rw [h2]; exact h4
    · dsimp only; rw [h2]; exact h4

/-! ### _law_mixed -/
theorem mix_in {c : List Int} {st : D} {t f p b : Int} {y : D} (hp : 0 < p) : ∃ b' y', forD (tgName 5) mixIn (c.map .int) [st, .int t, .int f, .int p, .int b, y] = .nx [st, .int t, .int f, .int p, .int b', y'] ∧ (c = [] → b' = b) ∧ (c ≠ [] → 0 ≤ b' ∧ b' < p) := by
  induction c generalizing b y with
  | nil => exact ⟨b, y, rfl, fun _ => rfl, fun h => absurd rfl h⟩
  | cons n c ih =>
    obtain ⟨b', y', h1, h2, h3⟩ := ih (b := (b * 48271 + n) % p) (y := .int n)
    refine ⟨b', y', ?_, fun h => (by cases h), fun _ => ?_⟩
    · rw [List.map_cons]
      unfold forD
      have e : mixIn [st, .int t, .int f, .int p, .int b, .int n] = .nx [st, .int t, .int f, .int p, .int ((b * 48271 + n) % p), .int n] := by
        unfold mixIn
        simp [cMul, hp]
      show (match mixIn [st, .int t, .int f, .int p, .int b, .int n] with
        | .nx e2 => forD (tgName 5) mixIn (c.map .int) e2
        | .ct e2 => forD (tgName 5) mixIn (c.map .int) e2
        | .bk e2 => .nx e2
        | r => r) = _
      rw [e]
      exact h1
    · by_cases hc : c = []
      · rw [h2 hc]
        exact ⟨Int.emod_nonneg _ (by omega), Int.emod_lt_of_pos _ hp⟩
      · exact h3 hc
/-- what one prime gives -/
theorem mix_out {g c : List Int} {r t f p : Int} {x4 y : D} (hp : 0 < p) (hp2 : p < 2 ^ 31) (ht : 0 ≤ t) (ht2 : t ≤ 2 ^ 41) : ∃ f' b' y', mixOut [stD g c r t, .int t, .int f, .int p, x4, y] = .nx [stD g c r t, .int t, .int f', .int p, .int b', y'] := by
  obtain ⟨b', y', h1, h2, h3⟩ := mix_in (c := c) (st := stD g c r t) (t := t) (f := f) (p := p) (b := 130363 * t + p / 13) (y := y) hp
  have hb : b'.natAbs < 2 ^ 64 := by
    by_cases hc : c = []
    · rw [h2 hc]
      omega
    · have := h3 hc
      omega
  refine ⟨f * 2147483647 + b' ^ 5 % p, b', y', ?_⟩
  unfold mixOut
  simp [cMul, cDivW_ok, cPow, h1, hp, hb]
theorem mixed_ok {g c : List Int} {r t : Int} (ht : 0 ≤ t) (ht2 : t < 2 ^ 41) : ∃ m, f__law_mixed [stD g c r t] = .ok (.int m) [stD g c r (t + 1)] := by
  have go : ∀ (ps : List Int) (f : Int) (x3 x4 y : D), (∀ p ∈ ps, 0 < p ∧ p < 2 ^ 31) → ∃ f' x3' x4' y', forD (tgName 3) mixOut (ps.map .int) [stD g c r (t + 1), .int (t + 1), .int f, x3, x4, y] = .nx [stD g c r (t + 1), .int (t + 1), .int f', x3', x4', y'] := by
    intro ps
    induction ps with
    | nil => intro f x3 x4 y _; exact ⟨f, x3, x4, y, rfl⟩
    | cons p ps ih =>
      intro f x3 x4 y h
      obtain ⟨h1, h2⟩ := h p List.mem_cons_self
      obtain ⟨f1, b1, y1, e⟩ := mix_out (g := g) (c := c) (r := r) (t := t + 1) (f := f) (p := p) (x4 := x4) (y := y) h1 h2 (by omega) (by omega)
      obtain ⟨f2, x3', x4', y', e2⟩ := ih f1 (.int p) (.int b1) y1 fun q hq => h q (List.mem_cons_of_mem _ hq)
      refine ⟨f2, x3', x4', y', ?_⟩
      rw [List.map_cons]
      unfold forD
      show (match mixOut [stD g c r (t + 1), .int (t + 1), .int f, .int p, x4, y] with
        | .nx e2 => forD (tgName 3) mixOut (ps.map .int) e2
        | .ct e2 => forD (tgName 3) mixOut (ps.map .int) e2
        | .bk e2 => .nx e2
        | r => r) = _
      rw [e]
      exact e2
  obtain ⟨f', x3, x4, y, e⟩ := go [2147483629, 2147483587, 2147483579, 2147483563, 2147483549, 2147483543] 0 .un .un .un (by decide)
  refine ⟨f', ?_⟩
  rw [List.map_cons, List.map_cons, List.map_cons, List.map_cons, List.map_cons, List.map_cons, List.map_nil] at e
  unfold f__law_mixed b__law_mixed
  simp [sizeLine_eq, e]
/-- a state, with at most n turns -/
def IsSt (n : Nat) (d : D) : Prop := ∃ g c r t, d = stD g c r t ∧ 0 ≤ t ∧ t ≤ n ∧ g.length ≤ 63
theorem IsSt.mono {n m : Nat} {d : D} (h : IsSt n d) (k : n ≤ m) : IsSt m d := by
  obtain ⟨g, c, r, t, e, h1, h2, h3⟩ := h
  exact ⟨g, c, r, t, e, h1, by omega, h3⟩
theorem IsSt.fz {n : Nat} {d : D} (h : IsSt n d) : froz d = false ∧ isUn d = false ∧ isSl d = false := by
  obtain ⟨g, c, r, t, rfl, _⟩ := h
  exact ⟨rfl, rfl, rfl⟩
theorem take_ok {n : Nat} {st : D} {size : Int} (h : IsSt n st) (hn : n < 2 ^ 40) (h0 : 0 < size) (h1 : size < 2 ^ 64) : ∃ k st', IsSt (n + 1) st' ∧ 0 ≤ k ∧ k < size ∧ f__law_take [st, .int size] = .ok (.int k) [st', .int size] := by
  obtain ⟨g, c, r, t, rfl, ht, htn, hg⟩ := h
  have hd : ∀ i, cDivW i size = true := fun i => cDivW_ok h0 (by omega)
  by_cases hr : r = 0
  · subst hr
    cases g with
    | cons y g =>
      refine ⟨y % size, stD g c (y / size) t, ⟨g, c, _, t, rfl, ht, by omega, by simp at hg; omega⟩, Int.emod_nonneg _ (by omega), Int.emod_lt_of_pos _ h0, ?_⟩
      have hg2 : g.length < 4611686018427387904 := by simp at hg; omega
      unfold f__law_take b__law_take
      simp [h0, hd, hg2]
    | nil =>
      obtain ⟨m, hm⟩ := mixed_ok (g := []) (c := c) (r := 0) (t := t) ht (by omega)
      refine ⟨m % size, stD [] c (m / size) (t + 1), ⟨[], c, _, t + 1, rfl, by omega, by omega, by simp⟩, Int.emod_nonneg _ (by omega), Int.emod_lt_of_pos _ h0, ?_⟩
      unfold f__law_take b__law_take
      simp [h0, hd, hm]
  · refine ⟨r % size, stD g c (r / size) t, ⟨g, c, _, t, rfl, ht, by omega, hg⟩, Int.emod_nonneg _ (by omega), Int.emod_lt_of_pos _ h0, ?_⟩
    unfold f__law_take b__law_take
    simp [h0, hd, hr]
/-! ### _law_begun -/
theorem begun_comp {ms : List Int} : ∀ (ns acc : List Int), acc.length + ns.length < sizeLine →
    compD [2] (tgName 2) begT begE (ns.map .int) (acc.map .int) [.scr ms, .un, .un] =
      .ok ((acc ++ (ns.filter fun n => decide ((10 : Int) ^ 18 ≤ n)).map fun n => n - 10 ^ 18).map .int) [.scr ms, .un, .un]
  | [], acc, h => by simp [compD]
  | n :: ns, acc, h => by
    simp only [List.length_cons] at h
    have h2 : acc.length < sizeLine := by omega
    by_cases c : (10 : Int) ^ 18 ≤ n
    · have ih := begun_comp (ms := ms) ns (acc ++ [n - 10 ^ 18]) (by simp; omega)
      rw [List.map_append] at ih
      rw [List.map_cons]
      unfold compD
      have c' : (1000000000000000000 : Int) ≤ n := c
      simp [begT, begE, cPow, c', h2, wipeE] at ih ⊢
      exact ih
    · have ih := begun_comp (ms := ms) ns acc (by omega)
      rw [List.map_cons]
      unfold compD
      have c' : ¬ (1000000000000000000 : Int) ≤ n := c
      simp [begT, begE, cPow, c', h2, wipeE] at ih ⊢
      exact ih
theorem begun_ok {ns : List Int} (h : ns.length ≤ 63) : ∃ st, IsSt 0 st ∧ f__law_begun [.scr ns] = .ok st [.scr ns] := by
  have e := begun_comp (ms := ns) ns [] (by rw [sizeLine_eq]; simp; omega)
  refine ⟨stD ((ns.filter fun n => decide ((10 : Int) ^ 18 ≤ n)).map fun n => n - 10 ^ 18) ns 0 0, ⟨_, _, _, _, rfl, Int.le_refl _, Int.le_refl _, ?_⟩, ?_⟩
  · rw [List.length_map]
    exact Nat.le_trans (List.length_filter_le _ _) h
  · rw [List.map_nil, List.nil_append] at e
    unfold f__law_begun b__law_begun
    have nd : ([.inr "great", .inr "cells", .inr "rest", .inr "turn"] : List Key).Nodup := stK_nd
    simp [dLc, wipeE, e, nd]
    unfold stD stK
    rw [List.map_map]
/-! ### _law_pick -/
theorem atI_nat {α : Type} {xs : List α} {k : Int} (h0 : 0 ≤ k) (h1 : k < xs.length) : ∃ x, xs[k.toNat]? = some x ∧ atI xs k = some x ∧ x ∈ xs := by
  have hk : k.toNat < xs.length := by omega
  refine ⟨xs[k.toNat], by simp [hk], ?_, List.getElem_mem hk⟩
  unfold atI ixN
  rw [if_pos h0, if_pos h1]
  simp [hk]
theorem pick_ok {n : Nat} {st : D} {o : Bool} {xs : List D} (h : IsSt n st) (hn : n < 2 ^ 40) (h0 : xs ≠ []) (h1 : xs.length < 2 ^ 60) (hf : frozL xs = true) : ∃ x st', IsSt (n + 1) st' ∧ x ∈ xs ∧ froz x = true ∧ f__law_pick [st, .lst o xs] = .ok x [st', .lst o xs] := by
  have hl : 0 < xs.length := List.length_pos_iff.mpr h0
  obtain ⟨k, st', hs, hk0, hk1, e⟩ := take_ok (size := xs.length) h hn (by omega) (by omega)
  obtain ⟨x, hx1, hx2, hx3⟩ := atI_nat hk0 (by omega)
  obtain ⟨f1, f2, f3⟩ := h.fz
  obtain ⟨g1, g2, g3⟩ := hs.fz
  have fx := frozL_mem hf x hx3
  have sx : isSl x = false := by
    cases x with
    | sl i => simp at fx
    | _ => simp
  have ux : isUn x = false := by
    cases x with
    | un => simp at fx
    | _ => simp
  refine ⟨x, st', hs, hx3, fx, ?_⟩
  unfold f__law_pick b__law_pick
  cases o with
  | true => simp [f1, f2, f3, g1, g2, g3, e, hx2, fx, sx, ux, hf]
  | false => simp [f1, f2, f3, g1, g2, g3, e, hx2, fx, sx, ux, hf]
end DL
set_option Elab.async false
set_option linter.all false
set_option maxRecDepth 100000
set_option maxHeartbeats 4000000
/-! DLq: repr has an answer; equal data. -/
namespace DL
open PySem L2

mutual
def okR : D → Bool
  | .non => true
  | .bl _ => true
  | .int i => decide (i.natAbs.log2 < 1900)
  | .str x => x.cps.toList.all fun c => decide (c < 16 ^ 8)
  | .lst _ xs => okRL xs
  | .tup xs => okRL xs
  | _ => false
def okRL : List D → Bool
  | [] => true
  | d :: ds => okR d && okRL ds
end
mutual
def dep : D → Nat
  | .lst _ xs => depL xs + 1
  | .tup xs => depL xs + 1
  | _ => 0
def depL : List D → Nat
  | [] => 0
  | d :: ds => max (dep d) (depL ds)
end
mutual
def blk : D → Nat
  | .str x => x.cps.size
  | .lst _ xs => blkL xs
  | .tup xs => blkL xs
  | _ => 0
def blkL : List D → Nat
  | [] => 0
  | d :: ds => blk d + 1 + blkL ds
end
mutual
theorem okR_py : ∀ d : D, okR d = true → ∃ q, toPy d = some q ∧ q.showable = true ∧ q.hasDict = false ∧ q.depth = dep d ∧ q.bulk = blk d ∧ q.leavesShort 1901 = true
  | .non, _ => ⟨.none, by unfold toPy; rfl, by unfold PyData.showable; rfl, by unfold PyData.hasDict; rfl, by unfold PyData.depth dep; rfl, by unfold PyData.bulk blk; rfl, by unfold PyData.leavesShort; rfl⟩
  | .bl b, _ => ⟨.bool b, by unfold toPy; rfl, by unfold PyData.showable; rfl, by unfold PyData.hasDict; rfl, by unfold PyData.depth dep; rfl, by unfold PyData.bulk blk; rfl, by unfold PyData.leavesShort; rfl⟩
  | .int i, h => by
    unfold okR at h
    have h' := of_decide_eq_true h
    refine ⟨.int i, by unfold toPy; rfl, by unfold PyData.showable; exact decide_eq_true (by omega), by unfold PyData.hasDict; rfl, by unfold PyData.depth dep; rfl, by unfold PyData.bulk blk; rfl, ?_⟩
    unfold PyData.leavesShort PyData.shown
    have e := int_text_length_le (k := 1900) (by decide) h'
    exact decide_eq_true (by show (Str.ofString (toString i)).length ≤ 1901; rw [ofString_length]; exact e)
  | .str x, h => by
    unfold okR at h
    exact ⟨.str x, by unfold toPy; rfl, by unfold PyData.showable; rfl, by unfold PyData.hasDict; rfl, by unfold PyData.depth dep; rfl, by unfold PyData.bulk blk; rfl, by unfold PyData.leavesShort; exact h⟩
  | .lst o xs, h => by
    unfold okR at h
    obtain ⟨qs, h1, h2, h3, h4, h5, h6⟩ := okR_pyL xs h
    exact ⟨.list qs, by unfold toPy; rw [h1]; rfl, by unfold PyData.showable; exact h2, by unfold PyData.hasDict; exact h3, by unfold PyData.depth dep; rw [h4], by unfold PyData.bulk blk; exact h5, by unfold PyData.leavesShort; exact h6⟩
  | .tup xs, h => by
    unfold okR at h
    obtain ⟨qs, h1, h2, h3, h4, h5, h6⟩ := okR_pyL xs h
    exact ⟨.tuple qs, by unfold toPy; rw [h1]; rfl, by unfold PyData.showable; exact h2, by unfold PyData.hasDict; exact h3, by unfold PyData.depth dep; rw [h4], by unfold PyData.bulk blk; exact h5, by unfold PyData.leavesShort; exact h6⟩
  | .un, h => by unfold okR at h; cases h
  | .sl _, h => by unfold okR at h; cases h
  | .dct _ _ _, h => by unfold okR at h; cases h
  | .obj _ _ _ _, h => by unfold okR at h; cases h
  | .exc _ _ _, h => by unfold okR at h; cases h
  | .scr _, h => by unfold okR at h; cases h
theorem okR_pyL : ∀ ds : List D, okRL ds = true → ∃ qs, toPyL ds = some qs ∧ PyData.showableAll qs = true ∧ PyData.hasDictAll qs = false ∧ PyData.depthAll qs = depL ds ∧ PyData.bulkAll qs = blkL ds ∧ PyData.leavesShortAll 1901 qs = true
  | [], _ => ⟨[], by unfold toPyL; rfl, by unfold PyData.showableAll; rfl, by unfold PyData.hasDictAll; rfl, by unfold PyData.depthAll depL; rfl, by unfold PyData.bulkAll blkL; rfl, by unfold PyData.leavesShortAll; rfl⟩
  | d :: ds, h => by
    unfold okRL at h
    rw [Bool.and_eq_true] at h
    obtain ⟨q, h1, h2, h3, h4, h5, h6⟩ := okR_py d h.1
    obtain ⟨qs, k1, k2, k3, k4, k5, k6⟩ := okR_pyL ds h.2
    refine ⟨q :: qs, ?_, ?_, ?_, ?_, ?_, ?_⟩
    · unfold toPyL; rw [h1, k1]; rfl
    · unfold PyData.showableAll; rw [h2, k2]; rfl
    · unfold PyData.hasDictAll; rw [h3, k3]; rfl
    · unfold PyData.depthAll depL; rw [h4, k4]
    · unfold PyData.bulkAll blkL; rw [h5, k5]
    · unfold PyData.leavesShortAll; rw [h6, k6]; rfl
end
theorem repr_ok {d : D} (h : okR d = true) (h1 : dep d ≤ 64) (h2 : blk d ≤ 8000) : ∃ t, fRepr [d] = some (.str t) := by
  obtain ⟨q, e1, e2, e3, e4, e5, e6⟩ := okR_py d h
  refine ⟨q.shown, ?_⟩
  have hb := PyData.shown_le_bulk 1901 (by decide) q e6
  have hl : q.shown.length ≤ sizeLine := by
    rw [sizeLine_eq]
    rw [e5] at hb
    have : (1901 + 2) * blk d ≤ (1901 + 2) * 8000 := Nat.mul_le_mul_left _ h2
    omega
  unfold fRepr
  dsimp only
  rw [e1, Option.bind_some, e2, e3, e4, decide_eq_true h1, decide_eq_true hl]
  rfl
theorem log2_small {i : Int} (h : i.natAbs < 2 ^ 1000) : decide (i.natAbs.log2 < 1900) = true := by
  apply decide_eq_true
  by_cases h0 : i.natAbs = 0
  · rw [h0]; decide
  · have : i.natAbs.log2 < 1000 := (Nat.log2_lt h0).mpr h
    omega
/-- two tuples of two ints -/
theorem fEq_t2 {a b c d : Int} : fEqA (.tup [.int a, .int b]) (.tup [.int c, .int d]) = some (.bl ((a == c) && ((b == d) && true))) := by
  rw [fEqA_tup]
  have e : toPy (.tup [.int a, .int b]) = some (.tuple [.int a, .int b]) := rfl
  have e2 : toPy (.tup [.int c, .int d]) = some (.tuple [.int c, .int d]) := rfl
  unfold fEq eqP
  rw [e, e2]
  rfl
theorem fNe_t2 {a b c d : Int} : fNeA (.tup [.int a, .int b]) (.tup [.int c, .int d]) = some (.bl (!((a == c) && ((b == d) && true)))) := by
  rw [fNeA_tup]
  have e : toPy (.tup [.int a, .int b]) = some (.tuple [.int a, .int b]) := rfl
  have e2 : toPy (.tup [.int c, .int d]) = some (.tuple [.int c, .int d]) := rfl
  unfold fNe eqP
  rw [e, e2]
  rfl
@[simp] theorem fSumA_t2 {a b : Int} : fSumA [.tup [.int a, .int b]] = some (.int (a + b)) := by
  show (asInts [.int a, .int b]).map (fun ns => D.int ns.sum) = _
  simp
end DL
set_option Elab.async false
set_option linter.all false
set_option maxRecDepth 100000
set_option maxHeartbeats 4000000
/-! DLs: enumerate; stores into lists as targets; equal data are equal. -/
namespace DL
open PySem L2

/-! ### enumerate(list) -/
def enumD : Nat → List D → List D
  | _, [] => []
  | k, d :: ds => .tup [.int k, d] :: enumD (k + 1) ds
theorem enumD_len : ∀ (k : Nat) (ds : List D), (enumD k ds).length = ds.length
  | _, [] => rfl
  | k, d :: ds => by unfold enumD; rw [List.length_cons, List.length_cons, enumD_len]
theorem enumD_get : ∀ (k : Nat) (ds : List D) (i : Nat) (x : D), (enumD k ds)[i]? = some x → ∃ d, ds[i]? = some d ∧ x = .tup [.int ((k + i : Nat) : Int), d]
  | _, [], i, x, h => by unfold enumD at h; simp at h
  | k, d :: ds, 0, x, h => by unfold enumD at h; cases h; exact ⟨d, rfl, rfl⟩
  | k, d :: ds, i + 1, x, h => by
    unfold enumD at h
    rw [List.getElem?_cons_succ] at h
    obtain ⟨y, h1, h2⟩ := enumD_get (k + 1) ds i x h
    exact ⟨y, by rw [List.getElem?_cons_succ]; exact h1, by rw [h2, show k + 1 + i = k + (i + 1) by omega]⟩
theorem enumD_mem : ∀ (k : Nat) (ds : List D) (x : D), x ∈ enumD k ds → ∃ i d, d ∈ ds ∧ x = .tup [.int i, d]
  | _, [], x, h => by unfold enumD at h; cases h
  | k, d :: ds, x, h => by
    unfold enumD at h
    rcases List.mem_cons.mp h with h | h
    · exact ⟨_, d, List.mem_cons_self, h⟩
    · obtain ⟨i, y, h1, h2⟩ := enumD_mem (k + 1) ds x h
      exact ⟨i, y, List.mem_cons_of_mem _ h1, h2⟩
@[simp] def itEnum (a : Dn D) : Dn (List D × List D) := (dU a).bind fun d env => match d with
  | .lst o xs => if frozL (fzL xs) then .ok ([.lst false (fzL xs)], enumD 0 (fzL xs)) env else .no
  | _ => .no
theorem itok_enum {K : PySem.W.Frag} {mg : Str → Option Value} {a : Addr} {xs : List D} (hf : frozL xs = true) : ItOK K mg (Ite K a) [.lst false xs] [.ref a] (enumD 0 xs) := by
  intro B σ H F env ts ms vs ns k hm R
  obtain ⟨S, rd⟩ := (R.drop hm).last (d := .lst false xs) (fun z => nomatch z)
  have rd' : Rp K mg F H (.lst false xs) (.ref a) S := rd
  unfold Rp at rd'
  obtain ⟨a', ws, S', e, rl, ho⟩ := rd'
  cases e
  rw [if_neg Bool.false_ne_true] at ho
  obtain ⟨sq, rfl, _⟩ := ho
  have sqH : SqL K H a ws := Or.inl (Or.inl (R.ex _ _ sq))
  refine ⟨fun x hx => ?_, fun hk => ⟨ws, sqH, by rw [← rl.len]; rw [enumD_len] at hk; exact hk⟩⟩
  obtain ⟨d, hd, rfl⟩ := enumD_get 0 xs k x hx
  obtain ⟨v, ev, rp⟩ := rl.get hd
  refine ⟨⟨ws, v, sqH, ev⟩, fun u H1 ⟨T, y, e1, hT, e2, yy⟩ => ?_⟩
  subst e1 e2
  have e3 := yy ws sqH
  rw [ev] at e3
  cases e3
  obtain ⟨ow, r⟩ := R
  have r2 := r.newF (o := .tup [.int (k : Nat), v]) hT
  have ex2 : Ex F (upd F T (.tup [.int (k : Nat), v])) := Ex.new (r.ex.none hT)
  refine ⟨_, RE.push0 ⟨ow, r2⟩ (Tm.of ?_)⟩
  unfold Rp
  refine ⟨T, [.int (k : Nat), v], rfl, ?_, Or.inl (Or.inl upd_same)⟩
  have := RpL.cons (K := K) (mg := mg) (F := upd F T (.tup [.int (k : Nat), v])) (H := upd H T (.tup [.int (k : Nat), v])) (S1 := []) (S2 := []) (rp_int (i := ((0 + k : Nat) : Int))) (RpL.one (rp.stay ex2 fun a ha => absurd ha List.not_mem_nil))
  rw [Nat.zero_add] at this ⊢
  exact this
theorem PA.ghost {X : Cx} {es : List Expr} {t : TA} (h : PA X es t) : PA X es (fun σ H Q => t σ H fun vs H1 => ∃ S, ∀ ods, Q vs (lk ods S H1)) := ⟨fun pos pins s σ H Q I q => thn (h.run pos pins s σ H _ I q) fun us s1 ⟨vs, H1, I1, r, S, q1⟩ => by
  obtain ⟨ods, J⟩ := lock_all (S := S) I1
  exact ⟨vs, _, J, r, q1 ods⟩⟩
theorem gi_enum {X : Cx} {W : WX} {e : Expr} {dn : Dn D} {p pos tpos : Pos} {elts : List Expr} {kk : Nat} (hm : X.mg "enumerate" = none) (h : GEU X W e (dU dn)) (hg : Gl X "enumerate" := by rfl) (hs : starEach [e] X.env = [(false, eval e X.env)] := by rfl)
    (hs2 : starEach [e] X.env = (false, eval e X.env) :: starEach [] X.env := by rfl) : GI X W (.Tuple elts kk tpos) (.Call (.Name "enumerate" p) [e] [] pos) (itEnum dn) := by
  refine PI.imp (pi_enum hg hm (PA.ghost (gau_cons h gau_nil hs2)) hs) fun σ H R ⟨B, F, env, ts, vs, r, q⟩ => ?_
  refine ⟨B, F, env, ts, vs, r, ?_⟩
  have q' := ResP.bind q
  have e0 : dCons (dU dn) dNil env = (dU dn env).bind fun d e => .ok [d] e := rfl
  rw [e0]
  cases e1 : dU dn env with
  | no => rw [e1] at q'; exact q'.elim
  | er c ns xs e2 => rw [e1] at q'; exact q'
  | ok d env1 =>
    rw [e1] at q'
    intro ws H1 F1 hl hd R1
    have hd := hd d List.mem_cons_self
    match ws, hl with
    | [v], _ =>
      cases d with
      | lst o xs =>
        have q2 : ResP (if frozL (fzL xs) = true then Res.ok ([D.lst false (fzL xs)], enumD 0 (fzL xs)) env1 else .no) _ _ := q'
        cases hf : frozL (fzL xs) with
        | false => rw [hf, if_neg Bool.false_ne_true] at q2; exact q2.elim
        | true =>
          rw [hf, if_pos rfl] at q2
          obtain ⟨S, R2⟩ := R1.fzLast hd
          refine ⟨S, fun ods => ?_⟩
          obtain ⟨F2, R2, rp⟩ := R2 ods
          have rp' := rp
          unfold fz Rp at rp'
          obtain ⟨a, us, S', rfl, rl, ho⟩ := rp'
          rw [if_neg Bool.false_ne_true] at ho
          have fz1 : frozL [D.lst false (fzL xs)] = true := by unfold frozL froz; rw [hf]; rfl
          have fz2 : noAl (enumD 0 (fzL xs)) := fun x hx i z => by
            obtain ⟨_, _, _, e⟩ := enumD_mem 0 _ x hx
            rw [e] at z; cases z
          exact ⟨a, us, rfl, Or.inl (Or.inl (R2.ex _ _ ho.1)), q2 _ [.ref a] _ F2 rfl (noAl_froz fz1) fz2 R2 (itok_enum hf).k⟩
      | _ => exact q'.elim

/-! ### o[i] as a target -/
def tgSub (o k : Dn D) : D → List D → Option (List D) := fun u env => match o env with
  | .ok (.sl i) e1 => (match k e1 with
    | .ok y e2 => (setL (e2.getD i .un) (rs e2 y) u).map fun d => e2.set i d
    | _ => none)
  | _ => none
theorem gg_sub {X : Cx} {P : List Nat} {o i : Expr} {do' dk : Dn D} {pos' : Pos} (ho : GE X WF o do') (hi : GE X WF i dk)
    (has : ∀ v, assign (.Subscript o i pos') X.env v = (do
      let ov ← holding [v] (eval o X.env)
      let iv ← holding [v, ov] (eval i X.env)
      standAt pos'
      holding [v, ov, iv] (setItem ov iv v)
      release [v, ov, iv] []) := by intro _; rfl) : GG X P [] (.Subscript o i pos') (tgSub do' dk) :=
  PG.imp (pg_sub ho hi set_list has) fun v σ H Q ⟨B, F, env, ts, vs, d, e1, hpp, na, R, hd, eg, q⟩ => by
    unfold tgSub at eg
    cases h1 : do' env with
    | no => rw [h1] at eg; cases eg
    | er _ _ _ _ => rw [h1] at eg; cases eg
    | ok x e2 =>
      rw [h1] at eg
      cases x with
      | sl j =>
        dsimp only at eg
        cases h2 : dk e2 with
        | no => rw [h2] at eg; cases eg
        | er _ _ _ _ => rw [h2] at eg; cases eg
        | ok y e3 =>
          rw [h2] at eg
          obtain ⟨d', hd', rfl⟩ := Option.map_eq_some_iff.mp eg
          refine ⟨B, F, env, ts ++ [d], vs ++ [v], R, ?_⟩
          rw [h1]
          intro w H2 F2 R2
          refine ⟨B, F2, e2, _, _, R2, ?_⟩
          rw [h2]
          intro z H3 F3 R3
          obtain ⟨S, ry⟩ := R3.last (fun c => by
            rw [c] at hd'
            unfold DL.setL at hd'
            split at hd'
            · rename_i h; cases h
            · cases hd')
          obtain ⟨hj, R5⟩ := RE.alias (us := []) (ws := []) (R3.drop rfl) rfl
          rw [List.append_nil, List.append_nil] at R5
          exact R5.setL hd hj ry hd' fun H' R6 => q σ H' F3 ⟨rfl, fun _ _ => rfl⟩ R6
      | _ => cases eg

/-! ### data are equal to themselves -/
mutual
def okE : D → Bool
  | .non => true
  | .bl _ => true
  | .int _ => true
  | .str x => PyData.strOk x
  | .lst _ xs => okEL xs
  | .tup xs => okEL xs
  | _ => false
def okEL : List D → Bool
  | [] => true
  | d :: ds => okE d && okEL ds
end
mutual
/-- the data behind two trees that differ in ownership alone -/
theorem eqv_self : ∀ q : PyData, q.canLay0 = true → PyData.eqv q q = true
  | .none, _ => by unfold PyData.eqv; rfl
  | .bool b, _ => by unfold PyData.eqv; simp
  | .int i, _ => by unfold PyData.eqv; simp
  | .str x, _ => by unfold PyData.eqv; simp
  | .list xs, h => by unfold PyData.canLay0 at h; unfold PyData.eqv; exact eqv_selfL xs h
  | .tuple xs, h => by unfold PyData.canLay0 at h; unfold PyData.eqv; exact eqv_selfL xs h
  | .dict _, h => by unfold PyData.canLay0 at h; cases h
theorem eqv_selfL : ∀ qs : List PyData, PyData.canLayAll0 qs = true → PyData.eqvAll qs qs = true
  | [], _ => by unfold PyData.eqvAll; rfl
  | q :: qs, h => by
    unfold PyData.canLayAll0 at h
    rw [Bool.and_eq_true] at h
    unfold PyData.eqvAll
    rw [eqv_self q h.1, eqv_selfL qs h.2]
    rfl
end
mutual
theorem okE_py : ∀ d : D, okE d = true → ∃ q, toPy d = some q ∧ q.canLay0 = true ∧ q.depth = dep d
  | .non, _ => ⟨.none, by unfold toPy; rfl, by unfold PyData.canLay0; rfl, by unfold PyData.depth dep; rfl⟩
  | .bl b, _ => ⟨.bool b, by unfold toPy; rfl, by unfold PyData.canLay0; rfl, by unfold PyData.depth dep; rfl⟩
  | .int i, _ => ⟨.int i, by unfold toPy; rfl, by unfold PyData.canLay0; rfl, by unfold PyData.depth dep; rfl⟩
  | .str x, h => ⟨.str x, by unfold toPy; rfl, by unfold PyData.canLay0; unfold okE at h; exact h, by unfold PyData.depth dep; rfl⟩
  | .lst o xs, h => by
    unfold okE at h
    obtain ⟨qs, h1, h2, h3⟩ := okE_pyL xs h
    exact ⟨.list qs, by unfold toPy; rw [h1]; rfl, by unfold PyData.canLay0; exact h2, by unfold PyData.depth dep; rw [h3]⟩
  | .tup xs, h => by
    unfold okE at h
    obtain ⟨qs, h1, h2, h3⟩ := okE_pyL xs h
    exact ⟨.tuple qs, by unfold toPy; rw [h1]; rfl, by unfold PyData.canLay0; exact h2, by unfold PyData.depth dep; rw [h3]⟩
  | .un, h => by unfold okE at h; cases h
  | .sl _, h => by unfold okE at h; cases h
  | .dct _ _ _, h => by unfold okE at h; cases h
  | .obj _ _ _ _, h => by unfold okE at h; cases h
  | .exc _ _ _, h => by unfold okE at h; cases h
  | .scr _, h => by unfold okE at h; cases h
theorem okE_pyL : ∀ ds : List D, okEL ds = true → ∃ qs, toPyL ds = some qs ∧ PyData.canLayAll0 qs = true ∧ PyData.depthAll qs = depL ds
  | [], _ => ⟨[], by unfold toPyL; rfl, by unfold PyData.canLayAll0; rfl, by unfold PyData.depthAll depL; rfl⟩
  | d :: ds, h => by
    unfold okEL at h
    rw [Bool.and_eq_true] at h
    obtain ⟨q, h1, h2, h3⟩ := okE_py d h.1
    obtain ⟨qs, k1, k2, k3⟩ := okE_pyL ds h.2
    refine ⟨q :: qs, ?_, ?_, ?_⟩
    · unfold toPyL; rw [h1, k1]; rfl
    · unfold PyData.canLayAll0; rw [h2, k2]; rfl
    · unfold PyData.depthAll depL; rw [h3, k3]
end
/-- the same data -/
theorem eqP_same {x y : D} (h : okE x = true) (h2 : dep x ≤ 64) (e : toPy x = toPy y) : eqP x y = some true := by
  obtain ⟨q, h1, h3, h4⟩ := okE_py x h
  have hs : SeqAt.shaped q = true := by
    unfold SeqAt.shaped
    rw [h3, h4, decide_eq_true h2]
    rfl
  unfold eqP
  rw [← e, h1, Option.bind_some, Option.bind_some, hs, eqv_self q h3]
  rfl
theorem fEqA_same {x y : D} (h : okE x = true) (h2 : dep x ≤ 64) (e : toPy x = toPy y) : fEqA x y = some (.bl true) := by
  unfold fEqA fOr fEqS
  cases x with
  | str i =>
    cases y with
    | str j =>
      unfold toPy at e
      cases e
      simp
    | _ => dsimp only; unfold fEq; rw [eqP_same h h2 e]; rfl
  | _ => dsimp only; unfold fEq; rw [eqP_same h h2 e]; rfl
theorem fNeA_same {x y : D} (h : okE x = true) (h2 : dep x ≤ 64) (e : toPy x = toPy y) : fNeA x y = some (.bl false) := by
  unfold fNeA fOr fNeS
  cases x with
  | str i =>
    cases y with
    | str j =>
      unfold toPy at e
      cases e
      simp
    | _ => dsimp only; unfold fNe; rw [eqP_same h h2 e]; rfl
  | _ => dsimp only; unfold fNe; rw [eqP_same h h2 e]; rfl
end DL
set_option Elab.async false
set_option linter.all false
set_option maxRecDepth 100000
set_option maxHeartbeats 4000000
/-! DLt: small defs of the program that many laws reach, and what they answer. -/
namespace DL
open PySem L2

def b_is_integer : Sn := nRet (dB (dAnd (dTest (dUn (fIsi "int") (dVar 0))) (dNot (dTest (dUn (fIsi "bool") (dVar 0))))))
def f_is_integer : List D → FR := fdOf [0] 1 b_is_integer
def b_is_between : Sn := nRet (dB (dAnd (dTest (dFn 1 f_is_integer [] (dCons (dVar 0) (dNil)))) (dChain fLe fLe (dVar 1) (dVar 0) (dVar 2))))
def f_is_between : List D → FR := fdOf [0, 1, 2] 3 b_is_between
def b_passage : Sn := nSeq (nPar 4 5 (dCons (dU (dCall fMin2 (dCons (dOp fSub (dVar 0) (dVar 1)) (dCons (dVar 3) (dNil))))) (dCons (dU (dCall fMin2 (dCons (dVar 1) (dCons (dOp fSub (dVar 2) (dVar 3)) (dNil))))) (dNil))))
  (nRet (dTup (dCons (dU (dOp fAdd (dOp fSub (dVar 3) (dVar 4)) (dVar 5))) (dCons (dU (dOp fSub (dOp fAdd (dVar 1) (dVar 4)) (dVar 5))) (dNil)))))
def f_passage : List D → FR := fdOf [0, 1, 2, 3] 6 b_passage
/-- scalars and small things: what the law draws -/
def sm (d : D) : Bool := froz d && (tyD d).isSome
theorem sm_un {d : D} (h : sm d = true) : froz d = true ∧ isUn d = false ∧ isSl d = false ∧ ∃ t, tyD d = some t := by
  unfold sm at h
  cases d <;> simp at h ⊢ <;> simp [*]
def isI : D → Bool
  | .int _ => true
  | _ => false
def bet (lo hi : Int) : D → Bool
  | .int v => decide (lo ≤ v) && decide (v ≤ hi)
  | _ => false
theorem isI_kit {d : D} (h : sm d = true) : ∃ t, tyD d = some t ∧ ∃ b1 b2, kitT t "int" = some b1 ∧ kitT t "bool" = some b2 ∧ (b1 && !b2) = isI d ∧ (!b1 || b2) = !isI d := by
  unfold sm at h
  cases d <;> simp at h <;> simp [kitT, isI]
theorem integer_ok {d : D} (h : sm d = true) : f_is_integer [d] = .ok (.bl (isI d)) [d] := by
  obtain ⟨h1, h2, h3, _⟩ := sm_un h
  obtain ⟨t, e1, b1, b2, e2, e3, e4, _⟩ := isI_kit h
  unfold f_is_integer b_is_integer
  rw [← e4]
  cases b1 <;> cases b2 <;> simp [h1, h2, h3, e1, e2, e3]
theorem between_ok {d : D} {lo hi : Int} (h : sm d = true) : f_is_between [d, .int lo, .int hi] = .ok (.bl (bet lo hi d)) [d, .int lo, .int hi] := by
  have e := integer_ok h
  obtain ⟨h1, h2, h3, _⟩ := sm_un h
  unfold f_is_between b_is_between
  cases d with
  | int v =>
    by_cases c : lo ≤ v
    · simp [e, isI, bet, c]
    · simp [e, isI, bet, c]
  | _ => simp [e, isI, bet, h1, h2, h3]
def pas (a b c d : Int) : D := .tup [.int (d - (if d < a - b then d else a - b) + (if c - d < b then c - d else b)), .int (b + (if d < a - b then d else a - b) - (if c - d < b then c - d else b))]
theorem passage_ok {a b c d : Int} : f_passage [.int a, .int b, .int c, .int d] = .ok (pas a b c d) [.int a, .int b, .int c, .int d] := by
  unfold f_passage b_passage pas
  simp [sizeLine_eq]
theorem bet_inv {lo hi : Int} {d : D} (h : bet lo hi d = true) : ∃ v, d = .int v ∧ lo ≤ v ∧ v ≤ hi := by
  cases d with
  | int v =>
    unfold bet at h
    rw [Bool.and_eq_true, decide_eq_true_eq, decide_eq_true_eq] at h
    exact ⟨v, rfl, h⟩
  | _ => cases h
theorem sm_int {i : Int} : sm (.int i) = true := rfl
end DL
set_option Elab.async false
set_option linter.all false
set_option maxRecDepth 100000
set_option maxHeartbeats 4000000
/-! DLu: all, any; in, not in; d.get(k, x); abs. -/
namespace DL
open PySem L2

/-! ### all, any of a list of bools -/
def asBls : List D → Option (List Bool)
  | [] => some []
  | .bl b :: ds => (asBls ds).map (b :: ·)
  | _ => none
theorem asBls_inv : ∀ {ds : List D} {bs : List Bool}, asBls ds = some bs → ds = bs.map .bl
  | [], bs, h => by cases h; rfl
  | d :: ds, bs, h => by
    cases d with
    | bl b =>
      unfold asBls at h
      obtain ⟨cs, h1, rfl⟩ := Option.map_eq_some_iff.mp h
      rw [asBls_inv h1]
      rfl
    | _ => cases h
theorem asBls_map : ∀ bs : List Bool, asBls (bs.map .bl) = some bs
  | [] => rfl
  | b :: bs => by
    rw [List.map_cons]
    unfold asBls
    rw [asBls_map bs]
    rfl
theorem RpL.ofBls {K : PySem.W.Frag} {mg : Str → Option Value} {F H : Hp} : ∀ {bs : List Bool} {vs : List V} {S : List Addr}, RpL K mg F H (bs.map .bl) vs S → vs = bs.map V.bl
  | [], vs, S, h => by unfold RpL at h; exact h.1
  | b :: bs, vs, S, h => by
    have h' : RpL K mg F H (.bl b :: bs.map .bl) vs S := h
    unfold RpL at h'
    obtain ⟨v, r, S1, S2, rfl, rfl, h1, h2⟩ := h'
    rw [RpL.ofBls h2, rp_bl_inv h1]
    rfl
def fAll : List D → Option D
  | [.lst _ xs] => (asBls xs).map fun bs => .bl (bs.all id)
  | _ => none
def fAny : List D → Option D
  | [.lst _ xs] => (asBls xs).map fun bs => .bl (bs.any id)
  | _ => none
section
variable {K : PySem.W.Frag} {mg : Str → Option Value}
theorem cs_all : CaS K mg (rAll K) fAll := by
  intro B σ H F env ts vs dx vx d Q R h e k
  match dx, e with
  | [.lst o xs], e =>
    obtain ⟨bs, hb, rfl⟩ := Option.map_eq_some_iff.mp e
    obtain ⟨v, S, rfl, rp⟩ := h.one
    rw [asBls_inv hb] at rp
    obtain ⟨a, us, S', rfl, hl, hs⟩ := lst_inv rp R.ex
    rw [hl.ofBls] at hs
    exact ⟨a, bs, rfl, Or.inl (Or.inl hs), k _ H F (R.push0 (Tm.of rp_bl))⟩
theorem cs_any : CaS K mg (rAny K) fAny := by
  intro B σ H F env ts vs dx vx d Q R h e k
  match dx, e with
  | [.lst o xs], e =>
    obtain ⟨bs, hb, rfl⟩ := Option.map_eq_some_iff.mp e
    obtain ⟨v, S, rfl, rp⟩ := h.one
    rw [asBls_inv hb] at rp
    obtain ⟨a, us, S', rfl, hl, hs⟩ := lst_inv rp R.ex
    rw [hl.ofBls] at hs
    exact ⟨a, bs, rfl, Or.inl (Or.inl hs), k _ H F (R.push0 (Tm.of rp_bl))⟩
end

/-! ### in, not in: ints in a list or a tuple of ints; keys in a dict -/
theorem inV_ints {i : Int} : ∀ ns : List Int, inV (.int i) (ns.map V.int) = ns.any fun n => n == i
  | [] => rfl
  | n :: ns => by
    have := inV_ints (i := i) ns
    unfold inV at this ⊢
    rw [List.map_cons, List.any_cons, List.any_cons, this]
    rfl
theorem flat_ints : ∀ ns : List Int, (ns.map V.int).all flatV = true
  | [] => rfl
  | n :: ns => by rw [List.map_cons, List.all_cons, flat_ints ns]; rfl
/-- is x in y -/
def inD (x y : D) : Option Bool := match y with
  | .lst _ xs => (match x with
    | .int i => (asInts xs).map fun ns => ns.any fun n => n == i
    | _ => none)
  | .tup xs => (match x with
    | .int i => (asInts xs).map fun ns => ns.any fun n => n == i
    | _ => none)
  | .dct _ ks _ => (asKey x).map fun k => (kIx ks k).isSome
  | _ => none
def fIn (x y : D) : Option D := (inD x y).map .bl
def fNotIn (x y : D) : Option D := (inD x y).map fun b => .bl (!b)
def rDIn (neg : Bool) : R2 := fun x y H Q => ∃ a o, y = .ref a ∧ DGet H a x o ∧ Q (.bl (if neg then !o.isSome else o.isSome)) H
theorem op_din {X : Cx} (hu : X.A.units + 1 < cLine) : OpR X (compareOp .In) (rDIn false) := by
  intro pins s σ H x y v u Q I rx ry h
  obtain ⟨a, o, rfl, g, q⟩ := h
  cases (show u = Value.ref a from ry)
  exact d_in hu I g rx fun s3 I3 => ⟨.bl o.isSome, H, I3, rfl, q⟩
theorem op_dnotin {X : Cx} (hu : X.A.units + 1 < cLine) : OpR X (compareOp .NotIn) (rDIn true) := by
  intro pins s σ H x y v u Q I rx ry h
  obtain ⟨a, o, rfl, g, q⟩ := h
  cases (show u = Value.ref a from ry)
  exact d_notIn hu I g rx fun s3 I3 => ⟨.bl (!o.isSome), H, I3, rfl, q⟩
def rInA (K : PySem.W.Frag) (neg : Bool) : R2 := fun x y H Q => rIn K neg x y H Q ∨ rDIn neg x y H Q
theorem op_inA {X : Cx} (hu : X.A.units + 1 < cLine) : OpR X (compareOp .In) (rInA X.K false) := OpR.or op_in_seq (op_din hu)
theorem op_notInA {X : Cx} (hu : X.A.units + 1 < cLine) : OpR X (compareOp .NotIn) (rInA X.K true) := OpR.or op_notIn_seq (op_dnotin hu)
section
variable {K : PySem.W.Frag} {mg : Str → Option Value}
theorem os_inG {neg : Bool} {B : Bd} {σ : L2.St} {H F : Hp} {env ts : List D} {vs : List V} {dx dy : D} {vx vy : V} {Sx Sy : List Addr} {b : Bool} {Q : VK} (R : RE K mg B σ H F env ts vs) (h1 : Rp K mg F H dx vx Sx) (h2 : Rp K mg F H dy vy Sy) (e : inD dx dy = some b)
    (k : Q (.bl (if neg then !b else b)) H) : rInA K neg vx vy H Q := by
  have ex := R.ex
  cases dy with
  | lst o xs =>
    cases dx with
    | int i =>
      obtain ⟨ns, hn, rfl⟩ := Option.map_eq_some_iff.mp (show (asInts xs).map _ = some b from e)
      unfold Rp at h1
      obtain ⟨rfl, _⟩ := h1
      rw [asInts_inv hn] at h2
      obtain ⟨a, us, S', rfl, hl, hs⟩ := lst_inv h2 ex
      rw [hl.ofInts] at hs
      exact .inl ⟨a, _, rfl, .inl (Or.inl (Or.inl hs)), rfl, flat_ints ns, by rw [inV_ints]; exact k⟩
    | _ => cases e
  | tup xs =>
    cases dx with
    | int i =>
      obtain ⟨ns, hn, rfl⟩ := Option.map_eq_some_iff.mp (show (asInts xs).map _ = some b from e)
      unfold Rp at h1
      obtain ⟨rfl, _⟩ := h1
      rw [asInts_inv hn] at h2
      unfold Rp at h2
      obtain ⟨a, us, rfl, hl, hs⟩ := h2
      rw [hl.ofInts] at hs
      exact .inl ⟨a, _, rfl, .inr (ex.sqT hs), rfl, flat_ints ns, by rw [inV_ints]; exact k⟩
    | _ => cases e
  | dct o ks xs =>
    obtain ⟨ky, hk, rfl⟩ := Option.map_eq_some_iff.mp (show (asKey dx).map _ = some b from e)
    have ey := asKey_rp h1 hk
    subst ey
    obtain ⟨a, us, S', rfl, hkl, hl, hr⟩ := dct_inv h2 ex
    have le := hl.len
    refine .inr ⟨a, valV (ks.zip us) ky, rfl, .inl ⟨_, ky, hr, rfl, rfl⟩, ?_⟩
    have e2 : (valV (ks.zip us) ky).isSome = (kIx ks ky).isSome := by
      rw [valV_kIx (by omega)]
      cases q : kIx ks ky with
      | none => rfl
      | some j =>
        have := kIx_lt q
        have hj : j < us.length := by omega
        simp [hj]
    rw [e2]
    exact k
  | _ => cases e
theorem os_in : OpS K mg (rInA K false) fIn := by
  intro B σ H F env ts vs dx dy vx vy Sx Sy d Q R h1 h2 e k
  obtain ⟨b, hb, rfl⟩ := Option.map_eq_some_iff.mp e
  exact os_inG R h1 h2 hb (k _ H F (R.push0 (Tm.of rp_bl)))
theorem os_notIn : OpS K mg (rInA K true) fNotIn := by
  intro B σ H F env ts vs dx dy vx vy Sx Sy d Q R h1 h2 e k
  obtain ⟨b, hb, rfl⟩ := Option.map_eq_some_iff.mp e
  exact os_inG R h1 h2 hb (k _ H F (R.push0 (Tm.of rp_bl)))
end
theorem fIn_un1 (y : D) : fIn .un y = none := by
  unfold fIn inD
  cases y <;> rfl
theorem fIn_un2 (x : D) : fIn x .un = none := rfl
theorem fNotIn_un1 (y : D) : fNotIn .un y = none := by
  unfold fNotIn inD
  cases y <;> rfl
theorem fNotIn_un2 (x : D) : fNotIn x .un = none := rfl

/-! ### abs -/
def fAbs : List D → Option D
  | [.int i] => some (.int (if i < 0 then -i else i))
  | _ => none
theorem cs_abs {K : PySem.W.Frag} {mg : Str → Option Value} : CaS K mg (fun xs H Q => ∃ i, xs = [.int i] ∧ Q (.int (if i < 0 then -i else i)) H) fAbs := by
  intro B σ H F env ts vs dx vx d Q R h e k
  match dx, e with
  | [.int i], e =>
    cases e
    exact ⟨i, h.int1, k _ H F (R.push0 (Tm.of rp_int))⟩
section
variable {X : Cx} {W : WX} {e : Expr} {p pos : Pos} {da : Dn (List D)}
theorem ge_all (z : X.mg "all" = none) (hc : X.calm = true) (ha : GA X W [e] da) (hg : Gl X "all" := by rfl) (he : starEach [e] X.env = (false, eval e X.env) :: starEach [] X.env := by rfl) (hpl : (backTo pos (starEach [] X.env)).any (·.1) = false := by rfl) : GE X W (.Call (.Name "all" p) [e] [] pos) (dCall fAll da) :=
  ge_callB (cr_all hc) cs_all z rfl ha hg (by decide) (by decide) he hpl
theorem ge_any (z : X.mg "any" = none) (hc : X.calm = true) (ha : GA X W [e] da) (hg : Gl X "any" := by rfl) (he : starEach [e] X.env = (false, eval e X.env) :: starEach [] X.env := by rfl) (hpl : (backTo pos (starEach [] X.env)).any (·.1) = false := by rfl) : GE X W (.Call (.Name "any" p) [e] [] pos) (dCall fAny da) :=
  ge_callB (cr_any hc) cs_any z rfl ha hg (by decide) (by decide) he hpl
theorem ge_abs (z : X.mg "abs" = none) (ha : GA X W [e] da) (hg : Gl X "abs" := by rfl) (he : starEach [e] X.env = (false, eval e X.env) :: starEach [] X.env := by rfl) (hpl : (backTo pos (starEach [] X.env)).any (·.1) = false := by rfl) : GE X W (.Call (.Name "abs" p) [e] [] pos) (dCall fAbs da) :=
  ge_callB call_abs cs_abs z rfl ha hg (by decide) (by decide) he hpl
end
end DL
set_option Elab.async false
set_option linter.all false
set_option maxRecDepth 100000
set_option maxHeartbeats 4000000
/-! DLv: sorted of a list of int pairs. -/
namespace DL
open PySem L2 PySem.Spec PyProof.Rows

/-- pairs of ints -/
def asPrs : List D → Option (List (Int × Int))
  | [] => some []
  | .tup [.int i, .int j] :: ds => (asPrs ds).map ((i, j) :: ·)
  | _ => none
def prD (p : Int × Int) : D := .tup [.int p.1, .int p.2]
theorem asPrs_inv : ∀ {ds : List D} {ps : List (Int × Int)}, asPrs ds = some ps → ds = ps.map prD := by
  intro ds
  induction ds with
  | nil => intro ps h; unfold asPrs at h; cases h; rfl
  | cons d ds ih =>
    intro ps h
    unfold asPrs at h
    split at h
    · rename_i h0; cases h0
    · rename_i i j ds' h0
      cases h0
      obtain ⟨qs, h1, rfl⟩ := Option.map_eq_some_iff.mp h
      rw [ih h1]
      rfl
    · cases h
theorem asPrs_map : ∀ ps : List (Int × Int), asPrs (ps.map prD) = some ps
  | [] => by unfold asPrs; rfl
  | p :: ps => by
    rw [List.map_cons]
    unfold prD asPrs
    show (asPrs (ps.map prD)).map _ = _
    rw [asPrs_map ps]
    rfl
def lexLe (p q : Int × Int) : Bool := decide (p.1 < q.1 ∨ (p.1 = q.1 ∧ p.2 ≤ q.2))
def PrAt (K : PySem.W.Frag) (F : Hp) (t : Addr) (p : Int × Int) : Prop := SqT K F t [.int p.1, .int p.2]
theorem RpL.prs {K : PySem.W.Frag} {mg : Str → Option Value} {F H : Hp} : ∀ {ps : List (Int × Int)} {vs : List V} {S : List Addr}, RpL K mg F H (ps.map prD) vs S → S = [] ∧ ∃ ts : List Addr, vs = ts.map V.ref ∧ Paired (PrAt K F) ts ps
  | [], vs, S, h => by
    have h' : RpL K mg F H [] vs S := h
    unfold RpL at h'
    exact ⟨h'.2, [], h'.1, .nil⟩
  | p :: ps, vs, S, h => by
    have h' : RpL K mg F H (prD p :: ps.map prD) vs S := h
    unfold RpL at h'
    obtain ⟨v, r, S1, S2, rfl, rfl, h1, h2⟩ := h'
    obtain ⟨rfl, ts, rfl, hp⟩ := RpL.prs h2
    unfold prD Rp at h1
    obtain ⟨a, us, rfl, hl, hs⟩ := h1
    unfold RpL at hl
    obtain ⟨v1, r1, T1, T2, rfl, rfl, g1, g2⟩ := hl
    unfold RpL at g2
    obtain ⟨v2, r2, T3, T4, rfl, rfl, g3, g4⟩ := g2
    unfold RpL at g4
    obtain ⟨rfl, rfl⟩ := g4
    unfold Rp at g1 g3
    obtain ⟨rfl, rfl⟩ := g1
    obtain ⟨rfl, rfl⟩ := g3
    exact ⟨rfl, a :: ts, rfl, .cons hs hp⟩
theorem rpL_prs {K : PySem.W.Frag} {mg : Str → Option Value} {F H : Hp} : ∀ {ts : List Addr} {ps : List (Int × Int)}, Paired (PrAt K F) ts ps → RpL K mg F H (ps.map prD) (ts.map V.ref) []
  | _, _, .nil => by
    show RpL K mg F H [] [] []
    unfold RpL
    exact ⟨rfl, rfl⟩
  | _, p :: _, .cons h hp => by
    show RpL K mg F H (prD _ :: _) (V.ref _ :: _) []
    unfold RpL
    refine ⟨_, _, [], [], rfl, rfl, ?_, rpL_prs hp⟩
    unfold prD Rp
    exact ⟨_, _, rfl, RpL.ints [p.1, p.2], h⟩

theorem paired_imp {α β : Type} {R R' : α → β → Prop} (h : ∀ x y, R x y → R' x y) : ∀ {xs : List α} {ys : List β}, Paired R xs ys → Paired R' xs ys
  | _, _, .nil => .nil
  | _, _, .cons a b => .cons (h _ _ a) (paired_imp h b)
/-- sorted(xs), xs a list of pairs of ints -/
def rSortedQ (K : PySem.W.Frag) : List V → Hp → VK → Prop := fun vs H Q => ∃ (F : Hp) (a : Addr) (ts : List Addr) (ps : List (Int × Int)), Ex F H ∧ vs = [V.ref a] ∧ SqL K H a (ts.map V.ref) ∧ Paired (PrAt K F) ts ps ∧
  ∀ ts' q, Paired (PrAt K F) ts' (ps.mergeSort lexLe) → H q = none → Q (.ref q) (upd H q (.lst (ts'.map V.ref)))
theorem isPair_uniq {h : Heap} {v : Value} {x y x' y' : Int} (p : Srt.IsPair h v x y) (q : Srt.IsPair h v x' y') : x = x' ∧ y = y' := by
  obtain ⟨a, o, t, u, n, e, ho, hc, hd⟩ := p
  obtain ⟨a', o', t', u', n', e', ho', hc', hd'⟩ := q
  rw [e] at e'
  cases e'
  rw [ho] at ho'
  cases ho'
  rw [hd] at hd'
  injection hd' with h1 h2
  have := congrArg Array.toList h1
  simp at this
  exact ⟨this.1.1, this.2.1⟩

theorem pr_heap {X : Cx} {pins : List (Addr × Obj)} {σ : L2.St} {H : Hp} {s : Shared} (I : Inv X pins σ H s) {t : Addr} {p : Int × Int} (h : PrAt X.K H t p) : Srt.IsPair s.heap (.ref t) p.1 p.2 := by
  obtain ⟨its, r, ⟨o, ho, hc, n, hd⟩, _⟩ := I.tuple h
  obtain ⟨u1, u2, rfl, ri, rj⟩ := vals2 r
  obtain ⟨t1, rfl⟩ := ri
  obtain ⟨t2, rfl⟩ := rj
  exact ⟨t, o, t1, t2, n, rfl, ho, hc, hd⟩
theorem paired_mem {α β : Type} {R : α → β → Prop} : ∀ {xs : List α} {ys : List β}, Paired R xs ys → ∀ x ∈ xs, ∃ y, R x y
  | _, _, .nil, x, h => by cases h
  | _, _, .cons h hp, x, hm => by
    rcases List.mem_cons.mp hm with rfl | hm
    · exact ⟨_, h⟩
    · exact paired_mem hp x hm
theorem paired_fn {α β : Type} {R : α → β → Prop} {f : α → β} : ∀ {xs : List α}, (∀ x ∈ xs, R x (f x)) → Paired R xs (xs.map f)
  | [], _ => .nil
  | x :: xs, h => .cons (h x List.mem_cons_self) (paired_fn fun y hy => h y (List.mem_cons_of_mem _ hy))
theorem paired_map {α β : Type} {R : α → β → Prop} {f : α → β} (hf : ∀ x y, R x y → f x = y) : ∀ {xs : List α} {ys : List β}, Paired R xs ys → xs.map f = ys
  | _, _, .nil => rfl
  | _, _, .cons h hp => by rw [List.map_cons, hf _ _ h, paired_map hf hp]
theorem lexLe_of {p q : Int × Int} (h : SrtO.lexB q p = false) : lexLe p q = true := by
  have := SrtO.lexB_no.mp h
  unfold lexLe
  rw [decide_eq_true_eq]
  omega
theorem lexLe_iff {p q : Int × Int} : lexLe p q = true ↔ (p.1 < q.1 ∨ (p.1 = q.1 ∧ p.2 ≤ q.2)) := by unfold lexLe; rw [decide_eq_true_eq]
theorem lexLe_sort {ps qs : List (Int × Int)} (hp : qs.Perm ps) (hs : qs.Pairwise fun a b => lexLe a b = true) : qs = ps.mergeSort lexLe := by
  have p2 : qs.Perm (ps.mergeSort lexLe) := hp.trans (List.mergeSort_perm ps _).symm
  have w2 : (ps.mergeSort lexLe).Pairwise (fun a b => lexLe a b = true) := List.pairwise_mergeSort (fun a b c h1 h2 => by rw [lexLe_iff] at *; omega) (fun a b => by rw [Bool.or_eq_true, lexLe_iff, lexLe_iff]; omega) ps
  exact p2.eq_of_pairwise (le := fun a b => lexLe a b = true) (fun a b _ _ h1 h2 => by
    rw [lexLe_iff] at h1 h2
    exact Prod.ext (by omega) (by omega)) hs w2
def bkA : Value → Addr
  | .ref a => a
  | _ => 0
theorem perm_refs {out : List Value} {ts : List Addr} (h : out.Perm (ts.map Value.ref)) : ∃ ts' : List Addr, ts'.Perm ts ∧ out = ts'.map Value.ref := by
  refine ⟨out.map bkA, ?_, ?_⟩
  · have := h.map bkA
    rw [List.map_map] at this
    have e : (bkA ∘ Value.ref) = id := rfl
    rw [e, List.map_id] at this
    exact this
  · rw [List.map_map]
    have : ∀ v ∈ out, (Value.ref ∘ bkA) v = v := fun v hv => by
      obtain ⟨t, _, rfl⟩ := List.mem_map.mp (h.mem_iff.mp hv)
      rfl
    rw [List.map_congr_left this, List.map_id']
theorem vals_rf : ∀ ts : List Addr, Vals (ts.map V.ref) (ts.map Value.ref)
  | [] => .nil
  | t :: ts => .cons rfl (vals_rf ts)
theorem cr_sortedQ {X : Cx} : CallR X (.builtin "sorted") (rSortedQ X.K) := by
  intro pins s σ H vs us Q I r h
  obtain ⟨F, a, ts, ps, ex, rfl, hs, hpF, q⟩ := h
  have hp : Paired (PrAt X.K H) ts ps := paired_imp (fun _ _ h => ex.sqT h) hpF
  obtain ⟨its, rv, hl, hz⟩ := I.list hs
  obtain ⟨u, rfl, ru⟩ := vals1 r
  obtain rfl : u = Value.ref a := ru
  have ei := refs_at rv
  subst ei
  let k : Value → Int × Int := fun v => open Classical in if h : ∃ p : Int × Int, Srt.IsPair s.heap v p.1 p.2 then h.choose else (0, 0)
  have hk : ∀ t p, PrAt X.K H t p → k (.ref t) = p := fun t p h => by
    have e : ∃ p : Int × Int, Srt.IsPair s.heap (.ref t) p.1 p.2 := ⟨p, pr_heap I h⟩
    show (open Classical in if h : ∃ p : Int × Int, Srt.IsPair s.heap (.ref t) p.1 p.2 then h.choose else (0, 0)) = p
    rw [dif_pos e]
    have := isPair_uniq e.choose_spec (pr_heap I h)
    exact Prod.ext this.1 this.2
  have hpr : ∀ t ∈ ts, PrAt X.K H t (k (.ref t)) := fun t ht => by
    obtain ⟨p, h⟩ := paired_mem hp t ht
    rw [hk t p h]
    exact h
  have hprF : ∀ t ∈ ts, PrAt X.K F t (k (.ref t)) := fun t ht => by
    obtain ⟨p, h⟩ := paired_mem hpF t ht
    rw [hk t p (ex.sqT h)]
    exact h
  have hz' : (ts.map Value.ref).length ≤ sizeLine := by rw [← rv.length]; exact hz
  refine SrtO.sorted_pairsO (k := k) hl.isList hz' (fun v hv => ?_) fun h' d out h1 h2 kp hd hn => ?_
  · obtain ⟨t, ht, rfl⟩ := List.mem_map.mp hv
    exact pr_heap I (hpr t ht)
  · obtain ⟨n, hn⟩ := hn
    obtain ⟨ts', hts, rfl⟩ : ∃ ts' : List Addr, ts'.Perm ts ∧ out = ts'.map Value.ref := by
      exact perm_refs h2.perm
    have e1 : ps = ts.map fun t => k (.ref t) := (paired_map hk hp).symm
    have e2 : (ts'.map fun t => k (.ref t)) = ps.mergeSort lexLe := by
      refine lexLe_sort (by rw [e1]; exact hts.map _) ?_
      have h1' : (ts'.map Value.ref).Pairwise (fun x y => SrtO.lexB (k y) (k x) = false) := h1
      rw [List.pairwise_map] at h1' ⊢
      exact h1'.imp fun h => lexLe_of h
    refine ⟨.ref d, upd H d (.lst (ts'.map V.ref)), I.laid (t' := s.toks) kp hd ⟨?_, ts'.map Value.ref, n, vals_rf ts', hn⟩, rfl, q ts' d ?_ (I.hok.fresh hd)⟩
    · rw [List.length_map, hts.length_eq, ← List.length_map (f := V.ref)]
      exact hz
    · rw [← e2]
      exact paired_fn fun t ht => hprF t (hts.mem_iff.mp ht)

def fSortP : List D → Option D
  | [.lst _ xs] => (asPrs xs).map fun ps => .lst true ((ps.mergeSort lexLe).map prD)
  | _ => none
theorem cs_sortedQ {K : PySem.W.Frag} {mg : Str → Option Value} : CaS K mg (rSortedQ K) fSortP := by
  intro B σ H F env ts vs dx vx d Q R h e k
  match dx, e with
  | [.lst o xs], e =>
    obtain ⟨ps, hb, rfl⟩ := Option.map_eq_some_iff.mp e
    obtain ⟨v, S, rfl, rp⟩ := h.one
    rw [asPrs_inv hb] at rp
    obtain ⟨a, us, S', rfl, hl, hs⟩ := lst_inv rp R.ex
    obtain ⟨_, tt, rfl, hp⟩ := hl.prs
    exact ⟨F, a, tt, ps, R.ex, rfl, Or.inl (Or.inl hs), hp, fun ts' q hq hn => k _ _ _ (R.newLst0 (rpL_prs hq) hn)⟩
end DL
set_option Elab.async false
set_option linter.all false
set_option maxRecDepth 100000
set_option maxHeartbeats 4000000
/-! DLw: exceptions with an own __init__, with fields; exceptions as values; a field read. -/
namespace DL
open PySem L2
open PyProof.Rows (AllBare envOfC)

/-! ### what makes an exception -/
abbrev Exc3 := Str × List Str × List D
section
variable (K : PySem.W.Frag) (mg : Str → Option Value) (W : WX)
def rdM (den : Dn Exc3) : L2.St → Hp → XK → Prop := fun σ H Q => ∃ B F env ts vs, RE K mg B σ H F env ts vs ∧
  ResP (den env) (fun p e => ∀ cls dx H' F', RE K mg B σ H' F' e ts vs → ErrIs K mg F' H' p.1 p.2.1 p.2.2 cls dx → Q cls dx H') (ErrK K mg W B σ ts vs)
end
abbrev GM (X : Cx) (W : WX) (e : Expr) (den : Dn Exc3) : Prop := PMk X e (rdM X.K X.mg W den)
theorem pmk_imp {X : Cx} {e : Expr} {t t' : L2.St → Hp → XK → Prop} (h : PMk X e t) (k : ∀ σ H Q, t' σ H Q → t σ H Q) : PMk X e t' := fun pins s σ H Q I q => h pins s σ H Q I (k σ H Q q)
@[simp] def nRaiseM (m : Dn Exc3) : Sn := fun env => (m env).out fun p e => .er p.1 p.2.1 p.2.2 e
@[simp] def dExc (m : Dn Exc3) : Dn D := m.bind fun p => fun e => .ok (.exc p.1 p.2.1 p.2.2) e
@[simp] def dEx0 (x : Str) : Dn Exc3 := fun env => .ok (x, [], []) env
@[simp] def dEx1 (x f : Str) (a : Dn D) : Dn Exc3 := (dU a).bind fun d => fun e => .ok (x, [f], [fz d]) e

/-- an exception that was made, as a value -/
theorem pe_pmk {X : Cx} {e : Expr} {t : L2.St → Hp → XK → Prop} (h : PMk X e t) : PE X e (fun σ H Q => t σ H fun cls d H' => ∀ a, H' a = none → Q (.ref a) (upd H' a (excHO a cls d))) := by
  refine ⟨fun pins s σ H Q I q => ?_⟩
  refine wpAny_mono (h pins s σ H _ I q) (fun u s1 hu => ?_) fun _ _ x => x
  obtain ⟨a, oe, vs, sI, H', cls, d, rfl, J, kp, ni, ha, hz, hd, h1, na, os, ag, hr, q⟩ := hu
  obtain ⟨y1, y2, y3, y4, y5⟩ := s1
  obtain ⟨z1, z2, z3, z4, z5⟩ := sI
  exact ⟨.ref a, _, J.call' (ch := []) os (Un.laidN kp ni na) (J.hok.laidN kp na (excHO_ok ha hz hd)) ag (fun b z => absurd z (by simp)), rfl, q a na⟩

section
variable {X : Cx} {W : WX} {P : List Nat} {e : Expr} {dm : Dn Exc3} {da : Dn D} {pos : Pos}
theorem gs_raiseM (hc : X.calm = true) (tk : Takes X W) (h : GM X W e dm) : GS X W P (.Raise (some e) none pos) (nRaiseM dm) := by
  refine PS.imp (ps_raise hc tk h) fun T σ H ⟨B, F, env, ts, vs, hpp, na, R, q⟩ => ?_
  exact ⟨B, F, env, ts, vs, R, (ResP.out q).mono (fun p e1 h1 cls dx H1 F1 R1 ei => h1 cls dx σ H1 F1 R1 ei) fun _ _ _ _ z => z⟩
theorem ge_exc (h : GM X W e dm) : GE X W e (dExc dm) := by
  refine PE.imp (pe_pmk h) fun σ H Q ⟨B, F, env, ts, vs, R, q⟩ => ?_
  refine ⟨B, F, env, ts, vs, R, (ResP.bind q).mono (fun p e1 h1 cls dx H1 F1 R1 ei a na => ?_) fun _ _ _ _ z => z⟩
  obtain ⟨C, hC, rfl, hd⟩ := ei
  obtain ⟨ow, r1⟩ := R1
  have ex0 : Ex F1 (upd F1 a (excHO a (.ref C) dx)) := Ex.new (r1.ex.none na)
  have R2 : RE X.K X.mg B σ (upd H1 a (excHO a (.ref C) dx)) (upd F1 a (excHO a (.ref C) dx)) e1 ts vs := ⟨ow, r1.newF na⟩
  have rp : Rp X.K X.mg (upd F1 a (excHO a (.ref C) dx)) (upd H1 a (excHO a (.ref C) dx)) (.exc p.1 p.2.1 p.2.2) (.ref a) [] := by
    unfold Rp
    refine ⟨rfl, a, C, dx, rfl, hC, upd_same, ?_⟩
    rcases hd with hd | ⟨d0, vs0, e1, e2, e3, e4⟩
    · exact .inl hd
    · exact .inr ⟨d0, vs0, e1, ex0 _ _ e2, e3, e4.stay ex0 fun b hb => absurd hb List.not_mem_nil⟩
  exact h1 (.ref a) _ _ (R2.push0 (Tm.of rp))

/-! ### classes without own __init__ -/
theorem gm_own {x m : Str} {j : Nat} {p p2 : Pos} (h : ExcR X.K X.mg x) (hg : Gl X x := by rfl) (hdb : (x == ("__debug__" : Str)) = false := by decide) : GM X W (.Call (.Name x p) [.Constant (.str m) j p2] [] pos) (dEx0 x) := by
  obtain ⟨C, h1, h2, h3, h4, h5⟩ := h.ex
  refine pmk_imp (pmk_own PySem.F.excBase_ValueError h2 h1 h3 (raises_own h4 h5) hg hdb) fun σ H Q ⟨B, F, env, ts, vs, R, q⟩ => ?_
  exact q (.ref C) none H F R ⟨C, h1, rfl, .inl ⟨rfl, rfl, rfl⟩⟩
end

/-! ### an own __init__ of one field -/
/-- its promise -/
def spIni (K : PySem.W.Frag) (f : Str) : Sp := fun vs H Q _ => ∃ a C v, vs = [.ref a, v] ∧ OexC K C ∧ H a = some (exo a C none) ∧ PySem.W.findIn K (.ref C) f = some none ∧
  ∀ dx, H dx = none → dx ≠ a → Q .non (upd (upd H dx (exd dx [(f, v)])) a (exo a C (some dx)))
/-- B.__init__(self, ..), B an own class that has it of ValueError -/
theorem pe_scinit {X : Cx} {C0 : Addr} {x0 : Str} {mc : Value} {e : Expr} {es : List Expr} {ta : TA} {p1 p2 pos : Pos} {pl : Sem Bool} (hg : Gl X x0) (hm : X.mg x0 = some (.ref C0)) (hr : PySem.W.readsIn X.K C0 mc = true) (sg : PySem.W.specialIn X.K (.ref C0) "__getattribute__" = some (some (.builtin "type.__getattribute__")))
    (vV : PySem.W.findCls X.K (.ref C0) mc "__init__" = some (.val (.builtin "ValueError.__init__"))) (ha : PA X (e :: es) ta) (hdb : (x0 == ("__debug__" : Str)) = false := by decide)
    (hc : eval (.Call (.Attribute (.Name x0 p1) "__init__" p2) (e :: es) [] pos) X.env = (do
      let ov ← eval (.Name x0 p1) X.env
      standAt p2.atName
      let (f, first) ← holding [ov] (getMethod ov "__init__" pl)
      callWith pos f first (backTo pos (starEach (e :: es) X.env)) (backToKw pos (keywordEach [] X.env))) := by rfl)
    (he : starEach (e :: es) X.env = (false, eval e X.env) :: starEach es X.env := by rfl) (hpl : (backTo pos (starEach es X.env)).any (·.1) = false := by rfl) :
    PE X (.Call (.Attribute (.Name x0 p1) "__init__" p2) (e :: es) [] pos) (tVeI X.K ta) := by
  refine ⟨fun pins s σ H Q I h => ?_⟩
  refine PySem.W.methodCall_KW (ld_glob I hg hm ?_ hdb) hc
  refine PySem.W.method_cls I.kIn sg (PySem.W.cls_value I.kIn hr vV (by decide +kernel) ?_)
  have I0 := I.tok (s.toks + 1)
  show wpAny _ _ (callWith pos (Value.builtin "ValueError.__init__") [] (backTo pos (starEach (e :: es) X.env)) []) _ _ _
  refine PyProof.Rows.callWith_method1 (thn (ha.run pos pins _ σ H _ I0 h) fun us s1 ⟨vs, H1, I1, r1, a, C, ws, ev, hl, T, ea, q⟩ => ?_) he hpl
  subst ev
  cases r1 with
  | @cons _ u0 _ ur ra rw' =>
    obtain rfl : u0 = Value.ref a := ra
    have hlen : ur.length ≤ sizeLine := by
      rw [← PySem.Paired.length rw', sizeLine_eq]
      omega
    exact oinit_ok T I1 ea hlen fun s' J => ⟨.non, H1, J, rfl, q⟩

section
variable {P : Program} {w : World} {K : PySem.W.Frag} {mg : Str → Option Value} {base : Heap} {qual x0 kn f m : Str} {st : Stmt} {fa C0 : Addr} {fd : FuncData} {mc : Value} {j : Nat} {p1 p2 p3 p4 p5 p6 p7 p8 p9 p10 : Pos}
theorem fnI_of (F : FunX K "__init__" qual st fa fd) (S : FnScope ["self", kn] ["self", kn] (defScope st))
    (hb : defBody st = [.Expr (.Call (.Attribute (.Name "ScoopError" p1) "__init__" p2) [.Name "self" p3, .Constant (.str m) j p4] [] p5) p6, .Assign [.Attribute (.Name "self" p7) f p8] (.Name kn p9) p10])
    (hgS : (defScope st).names.lookup ("ScoopError" : Str) = some .globalImplicit) (hm : mg "ScoopError" = some (.ref C0)) (hr : PySem.W.readsIn K C0 mc = true) (sg : PySem.W.specialIn K (.ref C0) "__getattribute__" = some (some (.builtin "type.__getattribute__")))
    (vV : PySem.W.findCls K (.ref C0) mc "__init__" = some (.val (.builtin "ValueError.__init__"))) 
    (hc : ∀ (L a : Addr) (cd : Value), ∃ pl : Sem Bool, eval (.Call (.Attribute (.Name "ScoopError" p1) "__init__" p2) [.Name "self" p3, .Constant (.str m) j p4] [] p5) (envOfC qual (defScope st) L a cd) = (do
      let ov ← eval (.Name "ScoopError" p1) (envOfC qual (defScope st) L a cd)
      standAt p2.atName
      let (f, first) ← holding [ov] (getMethod ov "__init__" pl)
      callWith p5 f first (backTo p5 (starEach [.Name "self" p3, .Constant (.str m) j p4] (envOfC qual (defScope st) L a cd))) (backToKw p5 (keywordEach [] (envOfC qual (defScope st) L a cd)))))
    (h1 : (kn == ("__debug__" : Str)) = false) (h2 : (kn == ("__classdict__" : Str)) = false) :
    FnG P w K mg base (L2.CX P w) 1 fa fd ["self", kn] (spIni K f) := by
  refine fnG_ofX F S (fun vs H Q E h => by obtain ⟨a, C, v, rfl, _⟩ := h; rfl) fun cdv A fr s H vs Q E hr0 hgd h => ?_
  obtain ⟨a, C, v, rfl, T, ha, hno, q⟩ := h
  rw [hb]
  obtain ⟨pl, hc⟩ := hc s.heap.objs.size fa cdv
  have vis : ∀ {y : Str}, y ∈ (["self", kn] : List Str) → Vis (defScope st) y := fun {y} hy => (S.par y hy).elim (fun z => .inl z) (fun z => .inr (.inl z))
  refine ⟨_, pss_cons (ps_expr (pe_scinit (x0 := "ScoopError") (C0 := C0) (mc := mc) hgS hm hr sg vV (pa_cons (pe_var (i := 0) rfl (vis List.mem_cons_self)) (pa_cons pe_str pa_nil)) (pl := pl) (hc := hc)) rfl)
    (pss_one (ps_ost (pe_var (i := 0) rfl (vis List.mem_cons_self)) (pe_var (i := 1) rfl (vis (List.mem_cons_of_mem _ List.mem_cons_self)) h1 h2))), ?_⟩
  refine ⟨.ref a, rfl, a, C, [.str m], rfl, (by rw [List.length_singleton]; omega), T, ha, ?_⟩
  refine ⟨v, rfl, .ref a, rfl, a, C, rfl, T, hno, .inl ⟨ha, fun dx n1 n2 => ?_⟩⟩
  exact q dx n1 n2
end
/-- an exception class with an own __init__ of one field -/
structure ExcI (P : Program) (w : World) (K : PySem.W.Frag) (mg : Str → Option Value) (base : Heap) (x f kn : Str) : Prop where
  ex : ∃ C fI fd, mg x = some (.ref C) ∧ OexC K C ∧ PySem.W.findIn K (.ref C) "__init__" = some (some (.ref fI)) ∧ PySem.W.typeIn K (.ref fI) = some (.type "function") ∧ PySem.W.findIn K (.ref C) f = some none ∧
    FnG P w K mg base (L2.CX P w) 1 fI fd ["self", kn] (spIni K f) ∧ (∀ (s : Shared) (u v : Value), BindsTo s fd ⟨[u, v], []⟩ [("self", u), (kn, v)]) ∧ ∀ (s : Shared) (u v : Value), BindsTo s fd ⟨[u], [(kn, v)]⟩ [("self", u), (kn, v)]

theorem make_guards {A : Around} {C : Addr} {us : List Value} {kw : List (Str × Value)} : (A.under (.builtin "type.__call__" ⟨.ref C :: us, kw⟩)).guards = A.guards := by
  first | rfl | simp [Around.under, Code.weight, Code.isCreation, Code.isGuard, Code.isCaller, Code.frames, Code.isFrame, guardIds]
/-- C(e) or C(k = e): what is between -/
theorem run_mkI {X : Cx} {pins : List (Addr × Obj)} {σ : L2.St} {H1 : Hp} {s1 : Shared} {Q : XK} {C fI : Addr} {fd : FuncData} {kn f : Str} {u : Value} {v : V} {ar : List Value} (hgd : X.A.guards = some []) (hr : Room 2 X.A) (T : OexC X.K C) (iC : PySem.W.findIn X.K (.ref C) "__init__" = some (some (.ref fI))) (tI : PySem.W.typeIn X.K (.ref fI) = some (.type "function"))
    (hno : PySem.W.findIn X.K (.ref C) f = some none) (F1 : FnG X.prog X.w X.K X.mg X.base (L2.CX X.prog X.w) 1 fI fd ["self", kn] (spIni X.K f)) (hx : PassesAt (L2.CX X.prog X.w) X σ (fun _ _ _ => False)) (hl : ar.length ≤ 1000)
    (hb : ∀ (s : Shared) (w : Value), BindsTo s fd ⟨w :: ar, []⟩ [("self", w), (kn, u)]) (I1 : Inv X pins σ H1 s1) (rv : RelV v u) (q : ∀ d, H1 d = none → Q (.ref C) (some d) (upd H1 d (.xd [(f, v)]))) :
    wpAny (model X.prog X.w) X.A (call (.ref C) ar) (MkP X pins σ Q) X.xe s1 := by
  obtain ⟨nm, qn, N, bs, bm, sn, sub, ab, col, dd, k0, k1, k2, k3, k5, hC, hbm⟩ := T.cls
  obtain ⟨hp, g, dr, tk, os⟩ := s1
  have hsz : hp.objs.size ≤ hp.objs.size + 1 := Nat.le_succ _
  have hn : H1 (hp.objs.size + 1) = none := I1.hok.fresh hsz
  have kk : ∀ b o, hp.get? b = some o → ((hp.push (PySem.W.kdv_tup ar)).push (PySem.HandSPX.excO C hp.objs.size)).get? b = some o := fun b o e => Heap.get?_push_of_some _ (Heap.get?_push_of_some _ e)
  have hget : ((hp.push (PySem.W.kdv_tup ar)).push (PySem.HandSPX.excO C hp.objs.size)).get? (hp.objs.size + 1) = some (PySem.HandSPX.excO C hp.objs.size) := by heap_get
  have I2 : Inv X pins σ (upd H1 (hp.objs.size + 1) (exo (hp.objs.size + 1) C none)) ⟨(hp.push (PySem.W.kdv_tup ar)).push (PySem.HandSPX.excO C hp.objs.size), g, dr, tk, os⟩ :=
    I1.laid (t' := tk) (a := hp.objs.size + 1) (o := exo (hp.objs.size + 1) C none) (h' := (hp.push (PySem.W.kdv_tup ar)).push (PySem.HandSPX.excO C hp.objs.size)) kk hsz (exo_ok hget)
  have r2 : Vals [V.ref (hp.objs.size + 1), v] [Value.ref (hp.objs.size + 1), u] := .cons rfl (.cons rv .nil)
  have hus : ar.length ≤ sizeLine := by rw [sizeLine_eq]; omega
  have hq : spIni X.K f [.ref (hp.objs.size + 1), v] (upd H1 (hp.objs.size + 1) (exo (hp.objs.size + 1) C none)) (fun v H2 => v = .non ∧ ∃ (d : Addr) (fs : List (Str × V)), H2 (hp.objs.size + 1) = some (exo (hp.objs.size + 1) C (some d)) ∧ H2 d = some (exd d fs) ∧ H1 d = none ∧ Q (.ref C) (some d) (upd (del H2 (hp.objs.size + 1)) d (.xd fs))) (fun _ _ _ => False) := by
    refine ⟨_, C, v, rfl, T, upd_same, hno, fun dx n1 n2 => ⟨rfl, dx, [(f, v)], upd_same, by rw [upd_ne n2, upd_same], by rw [upd_ne n2] at n1; exact n1, ?_⟩⟩
    rw [upd_ne n2] at n1
    have e : upd (del (upd (upd (upd H1 (hp.objs.size + 1) (exo (hp.objs.size + 1) C none)) dx (exd dx [(f, v)])) (hp.objs.size + 1) (exo (hp.objs.size + 1) C (some dx))) (hp.objs.size + 1)) dx (.xd [(f, v)]) = upd H1 dx (.xd [(f, v)]) := by
      funext b
      by_cases hb : b = dx
      · rw [hb, upd_same, upd_same]
      · rw [upd_ne hb, upd_ne hb]
        by_cases ha : b = hp.objs.size + 1
        · rw [ha, del_same, hn]
        · rw [del_ne ha, upd_ne ha, upd_ne hb, upd_ne ha]
    rw [e]
    exact q dx n1
  refine wpAny_call (PySem.HandSPX.call_own F.excBase_ValueError (fun Y => PySem.HandSPX.refsVE_contains Y bm hbm) (I1.kIn _ _ hC) (PySem.W.looks_findIn I1.kIn iC) (fun self => PySem.W.bind_fn I1.kIn self tI) hus
    (codeAny_mono (F1.run _ X.stack _ _ ⟨Value.ref (hp.objs.size + 1) :: ar, []⟩ _ _ _ (fun _ _ _ => False) (hr.make C ar []) (make_guards.trans hgd) (I2.env0.make C ar []) (hb _ _) r2 hq) fun r s' hq' => ?_))
  cases r with
  | error er => exact hx pins _ _ er s' I2 hq'
  | ok fl =>
    cases fl with
    | ret u =>
      obtain ⟨v, H2, os2, bare2, un2, hok2, rv, ev, d, fs, ea, ed, hd1, q2⟩ := hq'
      subst ev
      obtain ⟨h2, g2, d2, t2, os'⟩ := s'
      exact ⟨rv, mk_end (raises_own T.exC T.tyC) I1 hsz kk un2 hok2 os2 bare2 ea ed hd1 q2⟩
    | next => exact False.elim hq'
    | brk => exact False.elim hq'
    | cont => exact False.elim hq'
section
variable {X : Cx} {W : WX} {x f kn : Str} {e : Expr} {da : Dn D} {p pos kpos : Pos}
theorem gm_fin {B : Bd} {σ : L2.St} {H1 F1 : Hp} {e1 ts : List D} {vs : List V} {d : D} {v : V} {C : Addr} {Q : XK} (gC : X.mg x = some (.ref C)) (hd : ∀ i, d ≠ .sl i) (R1 : RE X.K X.mg B σ H1 F1 e1 (ts ++ [d]) (vs ++ [v]))
    (q1 : ∀ cls dx H' F', RE X.K X.mg B σ H' F' e1 ts vs → ErrIs X.K X.mg F' H' x [f] [fz d] cls dx → Q cls dx H') : ∃ S, ∀ ods, ∀ dx, lk ods S H1 dx = none → Q (.ref C) (some dx) (upd (lk ods S H1) dx (.xd [(f, v)])) := by
  obtain ⟨S, R2⟩ := R1.fzLast hd
  refine ⟨S, fun ods dx n1 => ?_⟩
  obtain ⟨F2, R2, rp⟩ := R2 ods
  have R3 := (R2.drop (us := [fz d]) (ws := [v]) rfl).newF (o := .xd [(f, v)]) n1
  refine q1 (.ref C) (some dx) _ _ R3 ⟨C, gC, rfl, .inr ⟨dx, [v], rfl, upd_same, rfl, ?_⟩⟩
  unfold RpL
  exact ⟨v, [], [], [], rfl, rfl, rp.stay (Ex.new (R2.ex.none n1)) (fun _ h => absurd h List.not_mem_nil), by unfold RpL; exact ⟨rfl, rfl⟩⟩
theorem gm_init (tk : Takes X W) (hgd : X.A.guards = some []) (hr : Room 2 X.A) (h : ExcI X.prog X.w X.K X.mg X.base x f kn) (he : GEU X W e (dU da)) (hg : Gl X x := by rfl) (hdb : (x == ("__debug__" : Str)) = false := by decide)
    (hs : starEach [e] X.env = (false, eval e X.env) :: starEach [] X.env := by rfl) (hpl : (backTo pos (starEach [] X.env)).any (·.1) = false := by rfl) : GM X W (.Call (.Name x p) [e] [] pos) (dEx1 x f da) := by
  obtain ⟨C, fI, fd, gC, T, iC, tI, hno, F1, hb, _⟩ := h.ex
  intro pins s σ H Q I ⟨B, F, env, ts, vs, R, q⟩
  refine wpAny_Call_Name_kw (ld_glob I hg gC ?_ hdb)
  have ha := pa_cons (PE.ghost he) pa_nil hs
  refine PySem.W.callWith_K (h₀ := X.base) I.ok.mod.kin T.kC (thn (ha.run pos pins s σ H (fun ws H1 => ∃ v, ws = [v] ∧ ∀ dx, H1 dx = none → Q (.ref C) (some dx) (upd H1 dx (.xd [(f, v)]))) I ?_) fun us s1 ⟨ws, H1, I1, r1, v, ev, q1⟩ => ⟨I1.kIn, ?_⟩) hs hpl
  · refine ⟨B, F, env, ts, vs, R, (ResP.bind q).mono (fun d e1 q1 v H1 F1 hd R1 => ?_) fun _ _ _ _ z => z⟩
    obtain ⟨S, z⟩ := gm_fin gC hd R1 q1
    exact ⟨S, fun ods => ⟨v, rfl, z ods⟩⟩
  · subst ev
    obtain ⟨u, rfl, ru⟩ := vals1 r1
    exact run_mkI (ar := [u]) hgd hr T iC tI hno F1 (fun pins H s e s' I c => tk e s' (XE.of_call I (fun _ _ _ h => h.elim) c)) (by simp) (fun s w => hb s w u) I1 ru q1
end

/-! ### a field read -/
def tXfE (K : PySem.W.Frag) (f : Str) (te : TE) : TE := fun σ H Q => te σ H fun x H1 => ∃ a C dd fs v, x = .ref a ∧ H1 a = some (excHO a (.ref C) (some dd)) ∧ H1 dd = some (.xd fs) ∧ XfC K C ∧ PySem.W.findIn K (.ref C) f = some none ∧ fs.lookup f = some v ∧ Q v H1
theorem pe_xfE {X : Cx} {e : Expr} {te : TE} {pos : Pos} {n : Str} (he : PE X e te) (hb : attributeBase e n X.env (eval e X.env) = eval e X.env := by rfl) : PE X (.Attribute e n pos) (tXfE X.K n te) := by
  refine ⟨fun pins s σ H Q I h => ?_⟩
  refine attr_of hb (thn (he.run pins s σ H _ I h) fun u s1 hh => ?_)
  obtain ⟨x, H1, I1, rx, a, C, dd, fs, v, ex, ea, ed, T, hno, l, q⟩ := hh
  subst ex
  obtain rfl : u = Value.ref a := rx
  obtain ⟨⟨oe, vs, ha, hz, hd⟩, _, _⟩ := (show ObjOk X.prog X.w H1 s1.heap a (excHO a (.ref C) (some dd)) from I1.hok a _ ea)
  have hx : ObjOk X.prog X.w H1 s1.heap dd (.xd fs) := I1.hok dd _ ed
  obtain ⟨mA, hns, hr⟩ := hx
  obtain ⟨od, ho, hl⟩ := lookIn_ns hns
  obtain ⟨u, hu, ru⟩ := RelO.some_of (v := v) (o := mA n) (by rw [← l]; exact hr n)
  have J : PySem.W.InstAt s1.heap a oe C (some od) := ⟨ha, hz.1, by unfold PySem.W.notCls; rw [hd] <;> rfl, by rw [hz.2]; exact ho⟩
  exact HandSPX.exc_get I1.kIn J T.ga T.gg T.exC (PySem.W.findObj_own T.hdC hno rfl (by rw [hl, hu])) (handed_of ru) ⟨v, H1, I1.tok _, ru, q⟩
def fXf (cs : List Str) (n : Str) : D → Option D
  | .exc c ns xs => if c ∈ cs then (ns.zip xs).lookup n else none
  | _ => none
/-- the classes whose field is read -/
def XfT (K : PySem.W.Frag) (mg : Str → Option Value) (cs : List Str) (n : Str) : Prop := ∀ c ∈ cs, ∀ C, mg c = some (.ref C) → XfC K C ∧ PySem.W.findIn K (.ref C) n = some none
theorem RpL.look {K : PySem.W.Frag} {mg : Str → Option Value} {F H : Hp} {n : Str} : ∀ {ns : List Str} {xs : List D} {vs : List V} {d : D}, RpL K mg F H xs vs [] → (ns.zip xs).lookup n = some d → ∃ v, (ns.zip vs).lookup n = some v ∧ Rp K mg F H d v []
  | [], _, _, _, _, h => by simp at h
  | _ :: _, [], _, _, _, h => by simp at h
  | m :: ns, x :: xs, vs, d, hr, h => by
    unfold RpL at hr
    obtain ⟨v, r, S1, S2, rfl, e, h1, h2⟩ := hr
    obtain ⟨rfl, rfl⟩ := List.append_eq_nil_iff.mp e.symm
    rw [List.zip_cons_cons, List.lookup_cons] at h ⊢
    cases q : n == m with
    | true => rw [q] at h; cases h; exact ⟨v, rfl, h1⟩
    | false => rw [q] at h; exact RpL.look h2 h
theorem ge_xf {X : Cx} {W : WX} {e : Expr} {da : Dn D} {pos : Pos} {n : Str} {cs : List Str} (T : XfT X.K X.mg cs n) (he : GE X W e da) (hb : attributeBase e n X.env (eval e X.env) = eval e X.env := by rfl) : GE X W (.Attribute e n pos) (dUn (fXf cs n) da) := by
  refine PE.imp (pe_xfE he hb) fun σ H Q ⟨B, F, env, ts, vs, R, q⟩ => ?_
  refine ⟨B, F, env, ts, vs, R, (ResP.bind q).mono (fun x e1 q1 v H1 F1 R1 => ?_) fun _ _ _ _ z => z⟩
  obtain ⟨d, ed, k⟩ := q1.lift
  unfold fXf at ed
  split at ed
  · rename_i c ns xs er
    split at ed
    · rename_i hc
      obtain ⟨S, rx⟩ := R1.last (fun z => by rw [z] at er; cases er)
      rw [er] at rx
      unfold Rp at rx
      obtain ⟨_, a, C, dx, rfl, hC, hF, hd⟩ := rx
      obtain ⟨t1, t2⟩ := T c hc C hC
      rcases hd with ⟨rfl, _⟩ | ⟨d0, vs0, rfl, e2, e3, e4⟩
      · simp at ed
      · obtain ⟨v, lv, rv⟩ := RpL.look e4 ed
        exact ⟨a, C, d0, _, v, rfl, R1.ex _ _ hF, R1.ex _ _ e2, t1, t2, lv, k _ _ _ ((R1.drop rfl).push0 (Tm.of rv))⟩
    · cases ed
  · cases ed
end DL
set_option Elab.async false
set_option linter.all false
set_option maxRecDepth 100000
set_option maxHeartbeats 4000000
/-! DLx: instances of own classes: made, a field read and stored, methods, properties. -/
namespace DL
open PySem L2
open PyProof.Rows (AllBare)

section
variable {K : PySem.W.Frag} {mg : Str → Option Value} {B : Bd} {σ : L2.St} {F F' H H' : Hp} {env ts us : List D} {vs ws : List V} {d : D} {v : V} {ow : Own → List Addr}

/-! ### the instance that is being made -/
theorem RpLu.split : ∀ {ps : List D} {us ws : List V} {S : List Addr}, RpLu K mg F H ps (us ++ ws) S → ∃ S1 S2, S = S1 ++ S2 ∧ RpLu K mg F H (ps.take us.length) us S1 ∧ RpLu K mg F H (ps.drop us.length) ws S2
  | ps, [], ws, S, h => ⟨[], S, rfl, by rw [List.length_nil, List.take_zero]; unfold RpLu; exact ⟨rfl, rfl⟩, h⟩
  | [], u :: us, ws, S, h => by
    unfold RpLu at h
    cases h.1
  | p :: ps, u :: us, ws, S, h => by
    unfold RpLu at h
    obtain ⟨v, r, S1, S2, e, rfl, hp, hr⟩ := h
    cases e
    obtain ⟨T1, T2, rfl, q1, q2⟩ := RpLu.split hr
    refine ⟨S1 ++ T1, T2, (List.append_assoc _ _ _).symm, ?_, by rw [List.length_cons, List.drop_succ_cons]; exact q2⟩
    rw [List.length_cons, List.take_succ_cons]
    unfold RpLu
    exact ⟨u, us, S1, T1, rfl, rfl, hp, q1⟩
theorem RpLu.append : ∀ {xs ys : List D} {us ws : List V} {S T : List Addr}, RpLu K mg F H xs us S → RpLu K mg F H ys ws T → RpLu K mg F H (xs ++ ys) (us ++ ws) (S ++ T)
  | [], ys, us, ws, S, T, h1, h2 => by
    unfold RpLu at h1
    rw [h1.1, h1.2]
    exact h2
  | d :: xs, ys, us, ws, S, T, h1, h2 => by
    unfold RpLu at h1
    obtain ⟨v, r, S1, S2, rfl, rfl, r1, r2⟩ := h1
    show RpLu K mg F H (d :: (xs ++ ys)) (v :: (r ++ ws)) _
    unfold RpLu
    exact ⟨v, r ++ ws, S1, S2 ++ T, rfl, List.append_assoc _ _ _, r1, RpLu.append r2 h2⟩
theorem RpLu.unc {ps : List D} {w : V} {us : List V} {S : List Addr} (h : RpLu K mg F H ps us S) : RpLu K mg F H (.un :: ps) (w :: us) S := by
  unfold RpLu
  exact ⟨w, us, [], S, rfl, rfl, .inl ⟨rfl, rfl⟩, h⟩

/-- __init__ as a function of the arguments: the m-th of its operands is the instance -/
def fdenMk (m : Nat) (fden : List D → FR) (l : List D) : FR := match fden (l.getD m .un :: l.eraseIdx m) with
  | .ok .non (p :: ps) => if isUn p || isSl p then .no else .ok p (ps.take m ++ .un :: ps.drop m)
  | .er c ns ys (p :: ps) => .er c ns ys (ps.take m ++ .un :: ps.drop m)
  | _ => .no
theorem spD_mk {n m : Nat} {fden : List D → FR} {w : V} {dvs : List V} {Q : VK} {E : XK} (hm : vs.length = m) (h : spD K mg n (fdenMk m fden) (vs ++ w :: dvs) H Q E) : spD K mg n fden (w :: (vs ++ dvs)) H (fun v H' => v = .non ∧ Q w H') E := by
  obtain ⟨hn, F, ds, S, rp, nd, fn, ex, q⟩ := h
  have hlen := rp.len
  have hm2 : m < ds.length := by rw [hlen, List.length_append, List.length_cons]; omega
  obtain ⟨w', v1, v2, T1, T2, T3, ev, l1, rfl, q1, q2, q3⟩ := rp.at (k := m) (d := ds[m]) (by simp [hm2])
  obtain ⟨e1, e2⟩ := List.append_inj ev (by rw [hm, l1])
  cases e2
  subst e1
  have mem : ∀ a, a ∈ T2 ++ (T1 ++ T3) ↔ a ∈ T1 ++ (T2 ++ T3) := fun a => by simp only [List.mem_append]; constructor <;> (rintro (z | z | z) <;> simp [z])
  have eg : ds.getD m .un = ds[m] := by rw [List.getD_eq_getElem?_getD]; simp [hm2]
  refine ⟨by simp only [List.length_append, List.length_cons] at hn ⊢; omega, F, ds[m] :: ds.eraseIdx m, T2 ++ (T1 ++ T3), ?_, ?_, fun a ha => fn a ((mem a).mp ha), ex, ?_⟩
  · rw [erase_split]
    exact RpL.cons q2 (q1.append q3)
  · obtain ⟨n1, n2, d1⟩ := List.nodup_append.mp nd
    obtain ⟨n3, n4, d2⟩ := List.nodup_append.mp n2
    refine List.nodup_append.mpr ⟨n3, List.nodup_append.mpr ⟨n1, n4, fun a ha b hb => d1 a ha b (List.mem_append_right _ hb)⟩, fun a ha b hb z => ?_⟩
    subst z
    rcases List.mem_append.mp hb with hb | hb
    · exact d1 a hb a (List.mem_append_left _ ha) rfl
    · exact d2 a ha a hb rfl
  · unfold fdenMk at q
    rw [eg] at q
    unfold FRP at q ⊢
    have post : ∀ {F' H' : Hp} {ps : List D} {us : List V} {qs : List D} {ws : List V}, PostC K mg F H (T2 ++ (T1 ++ T3)) F' H' ps us → (∀ S', RpLu K mg F' H' ps us S' → ∃ S'', RpLu K mg F' H' qs ws S'' ∧ (S'.Nodup → S''.Nodup) ∧ ∀ a ∈ S'', a ∈ S') → PostC K mg F H (T1 ++ (T2 ++ T3)) F' H' qs ws := by
      intro F' H' ps us qs ws ⟨S', r1, r2, r3, r4, r5⟩ hh
      obtain ⟨S'', k1, k2, k3⟩ := hh S' r1
      refine ⟨S'', k1, k2 r2, fun a ha => r3 a (k3 a ha), r4, fun a h1 h2 => ?_⟩
      obtain ⟨z1, z2, z3⟩ := r5 a h1 fun z => h2 ((mem a).mp z)
      exact ⟨z1, z2, fun z => z3 (k3 a z)⟩
    cases hf : fden (ds[m] :: ds.eraseIdx m) with
    | no => rw [hf] at q; exact q.elim
    | er c ns ys ps =>
      rw [hf] at q
      cases ps with
      | nil => exact q.elim
      | cons p ps =>
        dsimp only at q
        intro cls dx H' F' hp ee
        refine q cls dx H' F' (post hp fun S' r => ?_) ee
        unfold RpLu at r
        obtain ⟨v, r', S1, S2, e, rfl, hp', hr⟩ := r
        cases e
        obtain ⟨U1, U2, rfl, r1, r2⟩ := RpLu.split hr
        rw [hm] at r1 r2
        exact ⟨U1 ++ U2, r1.append r2.unc, fun n => (List.nodup_append.mp n).2.1, fun a ha => List.mem_append_right _ ha⟩
    | ok dd ps =>
      rw [hf] at q
      cases dd with
      | non =>
        cases ps with
        | nil => exact q.elim
        | cons p ps =>
          dsimp only at q
          by_cases hu : (isUn p || isSl p) = true
          · rw [if_pos hu] at q; exact q.elim
          · rw [if_neg hu] at q
            refine ⟨rfl, rfl, fun v H' F' hp => ?_⟩
            have hv : v = .non := by
              obtain ⟨S', r, _⟩ := hp
              unfold RpLu at r
              obtain ⟨v', r', S1, S2, e, _, hp', _⟩ := r
              cases e
              rcases hp' with ⟨z, _⟩ | z
              · cases z
              · unfold Rp at z; exact z.1
            refine ⟨hv, q.2.2 w H' F' (post hp fun S' r => ?_)⟩
            unfold RpLu at r
            obtain ⟨v', r', S1, S2, e, rfl, hp', hr⟩ := r
            cases e
            have e1 : S1 = [] := by
              rcases hp' with ⟨z, _⟩ | z
              · cases z
              · unfold Rp at z; exact z.2
            subst e1
            unfold RpLu at hr
            obtain ⟨v2, r2, S3, S4, e, rfl, hp2, hr2⟩ := hr
            cases e
            obtain ⟨U1, U2, rfl, r3, r4⟩ := RpLu.split hr2
            rw [hm] at r3 r4
            refine ⟨S3 ++ (U1 ++ U2), ?_, fun n => n, fun a ha => ha⟩
            unfold RpLu
            exact ⟨w, vs ++ w :: dvs, S3, U1 ++ U2, rfl, rfl, hp2, r3.append r4.unc⟩
      | _ => exact q.elim

theorem takeA_app {o : D} (ho : ∀ i, o ≠ .sl i) : ∀ (ds env : List D), takeA (ds ++ [o]) env = (takeA ds env).map fun p => (p.1 ++ [o], p.2)
  | [], env => by
    show takeA [o] env = _
    unfold takeA
    cases o with
    | sl i => exact absurd rfl (ho i)
    | _ => rfl
  | d :: ds, env => by
    show takeA (d :: (ds ++ [o])) env = _
    unfold takeA
    rw [takeA_app ho ds env]
    cases takeA ds env with
    | none => rfl
    | some p =>
      obtain ⟨xs, e1⟩ := p
      dsimp only [Option.map_some]
      cases d with
      | sl i =>
        dsimp only
        cases isUn (e1.getD i .un) <;> rfl
      | _ => rfl
theorem putA_mid {o : D} (ho : ∀ i, o ≠ .sl i) : ∀ {ds ps env : List D} {qs : List D}, ds.length ≤ ps.length → putA (ds ++ [o]) (ps.take ds.length ++ .un :: qs) env = putA ds ps env
  | [], ps, env, qs, _ => by
    rw [List.length_nil, List.take_zero]
    show putA [o] (.un :: qs) env = putA [] ps env
    have e2 : putA [] ps env = env := by unfold putA; cases ps <;> rfl
    rw [e2]
    unfold putA
    cases o with
    | sl i => exact absurd rfl (ho i)
    | _ => unfold putA; cases qs <;> rfl
  | d :: ds, [], env, qs, h => absurd h (by simp)
  | d :: ds, p :: ps, env, qs, h => by
    have h' : ds.length ≤ ps.length := by simpa using h
    rw [List.length_cons, List.take_succ_cons]
    show putA (d :: (ds ++ [o])) (p :: (ps.take ds.length ++ .un :: qs)) env = _
    unfold putA
    exact putA_mid ho h'
end

/-- C(e, ..): the instance, owned; what __init__ says -/
@[simp] def dMk (c : Str) (n : Nat) (fden : List D → FR) (dd : List D) (args : Dn (List D)) : Dn D := args.bind fun ds env => if ds.length + 1 + dd.length = n then match takeA ds env with
  | none => .no
  | some (xs, e1) => match fden (.obj true c [] [] :: (xs ++ dd)) with
    | .ok .non (p :: ps) => if (isUn p || isSl p) || decide (ps.length < ds.length) then .no else .ok p (putA ds ps e1)
    | .er cl ns ys (_ :: ps) => if ps.length < ds.length then .no else .er cl ns ys (putA ds ps e1)
    | _ => .no
  else .no
/-- C(k = e, ..): all that is given is frozen -/
@[simp] def dMkK (c : Str) (ord : List Nat) (fden : List D → FR) (dd : List D) (args : Dn (List D)) : Dn D := args.bind fun ds env => if frozL ds && ord.all (fun i => decide (i < ds.length + dd.length)) then match fden (.obj true c [] [] :: ordL .un ord (ds ++ dd)) with
    | .ok .non (p :: _) => if isUn p || isSl p then .no else .ok p env
    | .er cl ns ys (_ :: _) => .er cl ns ys env
    | _ => .no
  else .no
def tMakeS (C : Addr) (sp : Sp) (gV : List V → List V) (E : L2.St → XK) (t : TA) : TE := fun σ H Q => t σ H fun vs H1 => ∀ x dx, H1 x = none → H1 dx = none → dx ≠ x →
  sp (.ref x :: gV vs) (upd (upd H1 dx (.own x)) x (.ins C dx [])) (fun v H2 => v = .non ∧ Q (.ref x) H2) (E σ)
section
variable {X : Cx} {W : WX} {k : Nat} {f C : Addr} {fd : FuncData} {ps ks : List Str} {sp : Sp} {dvs : List V} {dsv : List Value} {dd : List D} {fden : List D → FR} {x c : Str} {p pos : Pos} {e : Expr} {es : List Expr} {kws : List Keyword} {da dk : Dn (List D)} {t : TA} {ord : List Nat}
theorem run_makeG {pins : List (Addr × Obj)} {σ : L2.St} {H : Hp} {s : Shared} {Q : VK} {ar usA : List Value} {kw : List (Str × Value)} {vsA : List V} (tk : Takes X W) (hgd : X.A.guards = some []) (M : Mk X.K C f) (F : FnG X.prog X.w X.K X.mg X.base (L2.CX X.prog X.w) k f fd ps sp) (hr : Room (k + 1) X.A)
    (hb : ∀ (s : Shared) (w : Value), X.K.In s.heap → BindsTo s fd ⟨w :: ar, kw⟩ (ps.zip (w :: usA))) (I : Inv X pins σ H s) (r : Vals vsA usA)
    (h : ∀ x dx, H x = none → H dx = none → dx ≠ x → sp (.ref x :: vsA) (upd (upd H dx (.own x)) x (.ins C dx [])) (fun v H2 => v = .non ∧ Q (.ref x) H2) (WE W σ)) :
    wpAny (model X.prog X.w) X.A (call (.ref C) ar kw) (EP X pins σ Q) X.xe s := by
  have hq := h (s.heap.objs.size + 1) s.heap.objs.size (I.hok.fresh (Nat.le_succ _)) (I.hok.fresh (Nat.le_refl _)) (Nat.ne_of_lt (Nat.lt_succ_self _))
  have I2 := Inv.made (C := C) I
  have r2 : Vals (V.ref (s.heap.objs.size + 1) :: vsA) (Value.ref (s.heap.objs.size + 1) :: usA) := .cons rfl r
  refine wpAny_call (make_map (f := f) I.kIn M.makes M.init (beq_iff_eq.mp M.fn) (codeAny_mono (F.run _ X.stack _ _ ⟨Value.ref (s.heap.objs.size + 1) :: ar, kw⟩ (Value.ref (s.heap.objs.size + 1) :: usA) _ _ (WE W σ) (hr.make C ar kw) (make_guards.trans hgd)
    (I2.env0.make C ar kw) (hb _ _ I2.kIn) r2 hq) fun r s' hq' => ?_))
  cases r with
  | error e => exact passAt tk σ pins _ _ e s' I2 hq'
  | ok fl =>
    cases fl with
    | ret u =>
      obtain ⟨v, H', I3, rv, ev, q3⟩ := I2.after hq'
      subst ev
      exact ⟨rv, ⟨V.ref (s.heap.objs.size + 1), H', I3, rfl, q3⟩⟩
    | next => exact False.elim hq'
    | brk => exact False.elim hq'
    | cont => exact False.elim hq'
theorem pe_makeG (tk : Takes X W) (hgd : X.A.guards = some []) (M : Mk X.K C f) (F : FnG X.prog X.w X.K X.mg X.base (L2.CX X.prog X.w) k f fd ps sp) (hr : Room (k + 1) X.A) (hg : Gl X x) (hm : X.mg x = some (.ref C)) (hb : Binds X.K fd ps dsv) (hd : Vals dvs dsv)
    (ha : PA X (e :: es) t) (hlen : ∀ σ H (Q : List V → Hp → Prop), t σ H Q → t σ H (fun ws H' => ws.length + 1 + dsv.length = ps.length ∧ Q ws H')) (hdb : (x == ("__debug__" : Str)) = false) (he : starEach (e :: es) X.env = (false, eval e X.env) :: starEach es X.env) (hpl : (backTo pos (starEach es X.env)).any (·.1) = false) :
    PE X (.Call (.Name x p) (e :: es) [] pos) (tMakeS C sp (fun vs => vs ++ dvs) (WE W) t) := by
  refine ⟨fun pins s σ H Q I h => wpAny_Call_Name_kw (ld_glob I hg hm ?_ hdb)⟩
  refine PySem.W.callWith_K (h₀ := X.base) I.ok.mod.kin M.kp (thn (ha.run pos pins s σ H _ I (hlen σ H _ h)) fun us s1 hh => ?_) he hpl
  obtain ⟨vs, H1, I1, r, hl, q⟩ := hh
  refine ⟨I1.kIn, run_makeG (ar := us) (kw := []) tk hgd M F hr (fun s w hk => ?_) I1 (r.append hd) q⟩
  exact hb s (w :: us) hk (by have := r.length; simp only [List.length_append, List.length_cons]; omega)
theorem pe_makeG0 (tk : Takes X W) (hgd : X.A.guards = some []) (M : Mk X.K C f) (F : FnG X.prog X.w X.K X.mg X.base (L2.CX X.prog X.w) k f fd ps sp) (hr : Room (k + 1) X.A) (hg : Gl X x) (hm : X.mg x = some (.ref C)) (hb : Binds X.K fd ps dsv) (hd : Vals dvs dsv)
    (hlen : 1 + dsv.length = ps.length) (hdb : (x == ("__debug__" : Str)) = false) :
    PE X (.Call (.Name x p) [] [] pos) (tMakeS C sp (fun vs => vs ++ dvs) (WE W) tNil) := by
  refine ⟨fun pins s σ H Q I h => wpAny_Call_Name_kw (ld_glob I hg hm ?_ hdb)⟩
  refine PySem.W.callWith_K0 I.kIn M.kp (run_makeG (ar := []) (kw := []) (vsA := dvs) (usA := dsv) tk hgd M F hr (fun s w hk => ?_) I hd h)
  exact hb s [w] hk (by simp only [List.length_append, List.length_cons, List.length_nil]; omega)
theorem pe_makeGK (tk : Takes X W) (hgd : X.A.guards = some []) (M : Mk X.K C f) (F : FnG X.prog X.w X.K X.mg X.base (L2.CX X.prog X.w) k f fd ps sp) (hr : Room (k + 1) X.A) (hg : Gl X x) (hm : X.mg x = some (.ref C))
    (hb : ∀ (s : Shared) (w : Value) (ws : List Value), X.K.In s.heap → ws.length = ks.length → BindsTo s fd ⟨[w], ks.zip ws⟩ (ps.zip (w :: ordL .none ord (ws ++ dsv)))) (hd : Vals dvs dsv)
    (hkw : PK X kws t) (hlen : ∀ σ H (Q : List V → Hp → Prop), t σ H Q → t σ H (fun ws H' => ws.length = ks.length ∧ Q ws H')) (hdb : (x == ("__debug__" : Str)) = false) (hall : (backToKw pos (keywordEach kws X.env)).all (·.1.isSome) = true) (hks : (backToKw pos (keywordEach kws X.env)).filterMap (·.1) = ks)
    (hpl : ((backTo pos (starEach [] X.env)).any (·.1) || (backToKw pos (keywordEach kws X.env)).any (·.1.isNone)) = false) :
    PE X (.Call (.Name x p) [] kws pos) (tMakeS C sp (fun vs => ordL .non ord (vs ++ dvs)) (WE W) t) := by
  refine ⟨fun pins s σ H Q I h => wpAny_Call_Name_kw (ld_glob I hg hm ?_ hdb)⟩
  refine PySem.W.callWith_KW0 (h₀ := X.base) I.ok.mod.kin M.kp hall (thn (hkw.run pos pins s σ H _ I (hlen σ H _ h)) fun ws s1 hh => ?_) hpl
  obtain ⟨zs, H1, I1, rz, hl, q⟩ := hh
  refine ⟨I1.kIn, ?_⟩
  rw [hks]
  exact run_makeG (ar := []) (kw := ks.zip ws) tk hgd M F hr (fun s w hk => hb s w ws hk (by rw [← rz.length, hl])) I1 (ord_vals (rz.append hd)) q

/-- the new instance as an operand -/
theorem RE.newIns {K : PySem.W.Frag} {mg : Str → Option Value} {B : Bd} {σ : L2.St} {F H : Hp} {env ts : List D} {vs : List V} {x dx : Addr} (R : RE K mg B σ H F env ts vs) (hc : mg c = some (.ref C)) (h1 : H x = none) (h2 : H dx = none) (h3 : dx ≠ x) :
    RE K mg B σ (upd (upd H dx (.own x)) x (.ins C dx [])) F env (ts ++ [.obj true c [] []]) (vs ++ [.ref x]) := by
  obtain ⟨ow, r⟩ := R
  have R1 : RE K mg B σ (upd H dx (.own x)) F env ts vs := ⟨ow, r.newH h2⟩
  refine RE.newOwn (us := []) (ws := []) (by rw [List.append_nil, List.append_nil]; exact R1) rfl (fun d hd => absurd hd List.not_mem_nil) (by rw [upd_ne (Ne.symm h3)]; exact h1) fun S hS => ?_
  unfold RpL at hS
  obtain ⟨_, rfl⟩ := hS
  unfold Rp
  exact ⟨x, C, dx, [], [], rfl, hc, rfl, RpL.nil, by rw [if_pos rfl]; exact ⟨upd_same, rfl⟩⟩
theorem mk_imp {n : Nat} (hn : n = ps.length) (hdd : ∀ F H, RpL X.K X.mg F H dd dvs []) (hdl : dvs.length = dsv.length) (hc : X.mg c = some (.ref C)) {σ : L2.St} {H : Hp} {Q : VK} (h : rdE X.K X.mg W (dMk c n fden dd da) σ H Q) : tMakeS C (spD X.K X.mg n fden) (fun vs => vs ++ dvs) (WE W) (rdA X.K X.mg W da) σ H Q := by
  obtain ⟨B, F, env, ts, vs, R, q⟩ := h
  refine ⟨B, F, env, ts, vs, R, (ResP.bind q).mono (fun ds e1 q1 ws H1 F1 hl R1 x dx h1 h2 h3 => ?_) fun _ _ _ _ z => z⟩
  by_cases hz : ds.length + 1 + dd.length = n
  · rw [if_pos hz] at q1
    cases ht : takeA ds e1 with
    | none => rw [ht] at q1; exact q1.elim
    | some pr =>
      obtain ⟨xs, e2⟩ := pr
      rw [ht] at q1
      dsimp only at q1
      have ho : ∀ i, D.obj true c [] [] ≠ .sl i := fun i z => by cases z
      have R2 := RE.newIns (c := c) R1 hc h1 h2 h3
      rw [List.append_assoc, List.append_assoc] at R2
      have t2 : takeA (ds ++ [.obj true c [] []]) e1 = some (xs ++ [.obj true c [] []], e2) := by rw [takeA_app ho, ht]; rfl
      have hxl : xs.length = ds.length := (takeA_un ht).2.1.symm
      have hdl2 := (hdd F1 H1).len
      refine spD_mk (m := ds.length) hl.symm ?_
      have z := RE.back (fden := fdenMk ds.length fden) (Q := Q) (E := WE W σ) R2 (by simp [hl]) t2 (hdd _ _) (n := n) (by simp only [List.length_append, List.length_cons, List.length_nil]; omega) ?_
      · rw [List.append_assoc] at z; exact z
      · rw [List.append_assoc]
        have eg : (xs ++ ([D.obj true c [] []] ++ dd)).getD ds.length .un = .obj true c [] [] := by rw [← hxl, List.getD_eq_getElem?_getD, List.getElem?_append_right (Nat.le_refl _), Nat.sub_self]; rfl
        have ee : (xs ++ ([D.obj true c [] []] ++ dd)).eraseIdx ds.length = xs ++ dd := by rw [← hxl]; exact erase_mid rfl
        unfold fdenMk
        rw [eg, ee]
        unfold FRP
        cases hf : fden (.obj true c [] [] :: (xs ++ dd)) with
        | no => rw [hf] at q1; exact q1.elim
        | er cl ns ys ps2 =>
          rw [hf] at q1
          cases ps2 with
          | nil => exact q1.elim
          | cons p ps2 =>
            dsimp only at q1 ⊢
            by_cases hp : ps2.length < ds.length
            · rw [if_pos hp] at q1; exact q1.elim
            · rw [if_neg hp] at q1
              intro cls dx' H' F' R3 ei
              rw [putA_mid ho (Nat.le_of_not_lt hp)] at R3
              exact q1 cls dx' H' F' R3 ei
        | ok dr ps2 =>
          rw [hf] at q1
          cases dr with
          | non =>
            cases ps2 with
            | nil => exact q1.elim
            | cons p ps2 =>
              dsimp only at q1 ⊢
              by_cases hp : ((isUn p || isSl p) || decide (ps2.length < ds.length)) = true
              · rw [if_pos hp] at q1; exact q1.elim
              · rw [if_neg hp] at q1
                rw [Bool.not_eq_true, Bool.or_eq_false_iff, decide_eq_false_iff_not] at hp
                rw [if_neg (by rw [hp.1]; exact Bool.false_ne_true)]
                have hp1 := Bool.or_eq_false_iff.mp hp.1
                refine ⟨hp1.2, hp1.1, fun v H' F' R3 => ?_⟩
                rw [putA_mid ho (Nat.le_of_not_lt hp.2)] at R3
                exact q1 v H' F' R3
          | _ => exact q1.elim
  · rw [if_neg hz] at q1; exact q1.elim
theorem mkK_imp {n : Nat} (hn : ord.length + 1 = n) (hdd : ∀ F H, RpL X.K X.mg F H dd dvs []) (hc : X.mg c = some (.ref C)) {σ : L2.St} {H : Hp} {Q : VK} (h : rdE X.K X.mg W (dMkK c ord fden dd dk) σ H Q) : tMakeS C (spD X.K X.mg n fden) (fun vs => ordL .non ord (vs ++ dvs)) (WE W) (rdAU X.K X.mg W dk) σ H Q := by
  obtain ⟨B, F, env, ts, vs, R, q⟩ := h
  refine ⟨B, F, env, ts, vs, R, (ResP.bind q).mono (fun ds e1 q1 ws H1 F1 hl na R1 x dx h1 h2 h3 => ?_) fun _ _ _ _ z => z⟩
  by_cases hz : (frozL ds && ord.all (fun i => decide (i < ds.length + dd.length))) = true
  · rw [if_pos hz] at q1
    rw [Bool.and_eq_true] at hz
    obtain ⟨hf, ho⟩ := hz
    have ho' : ∀ i, D.obj true c [] [] ≠ .sl i := fun i z => by cases z
    obtain ⟨ow, r⟩ := R1
    obtain ⟨ow1, S, r1, rp, _⟩ := r.takes hl na
    have e0 := rp.froz hf
    subst e0
    have rp2 : RpL X.K X.mg F1 H1 (ds ++ dd) (ws ++ dvs) [] := rp.append (hdd F1 H1)
    have rp3 := ord_rp (ord := ord) rp2 (by rw [List.length_append]; exact ho)
    have R2 := RE.newIns (c := c) ⟨ow1, r1⟩ hc h1 h2 h3
    have rp4 : RpL X.K X.mg F1 (upd (upd H1 dx (.own x)) x (.ins C dx [])) (ordL .un ord (ds ++ dd)) (ordL .non ord (ws ++ dvs)) [] := rp3.stay (Ex.refl F1) fun a ha => absurd ha List.not_mem_nil
    refine spD_mk (vs := []) (m := 0) rfl ?_
    have z := RE.back (ds := [.obj true c [] []]) (ws := [.ref x]) (fden := fdenMk 0 fden) (Q := Q) (E := WE W σ) R2 rfl (xs := [.obj true c [] []]) (e1 := e1) (by have q := takeA_app ho' [] e1; exact q) rp4 (n := n) (by unfold ordL; simp only [List.length_append, List.length_cons, List.length_nil, List.length_map]; omega) ?_
    · exact z
    · unfold fdenMk
      show FRP (match fden (.obj true c [] [] :: ordL .un ord (ds ++ dd)) with
        | .ok .non (p :: ps) => if isUn p || isSl p then .no else .ok p (ps.take 0 ++ .un :: ps.drop 0)
        | .er c ns ys (p :: ps) => .er c ns ys (ps.take 0 ++ .un :: ps.drop 0)
        | _ => .no) _ _
      have pa : ∀ ps : List D, putA [D.obj true c [] []] (ps.take 0 ++ .un :: ps.drop 0) e1 = e1 := fun ps => by
        rw [List.take_zero]
        show putA [D.obj true c [] []] (.un :: ps.drop 0) e1 = e1
        unfold putA putA
        cases ps.drop 0 <;> rfl
      cases hf : fden (.obj true c [] [] :: ordL .un ord (ds ++ dd)) with
      | no => rw [hf] at q1; exact q1.elim
      | er cl ns ys ps2 =>
        rw [hf] at q1
        cases ps2 with
        | nil => exact q1.elim
        | cons p ps2 =>
          dsimp only at q1 ⊢
          unfold FRP
          intro cls dx' H' F' R3 ei
          rw [pa] at R3
          exact q1 cls dx' H' F' R3 ei
      | ok dr ps2 =>
        rw [hf] at q1
        cases dr with
        | non =>
          cases ps2 with
          | nil => exact q1.elim
          | cons p ps2 =>
            dsimp only at q1 ⊢
            by_cases hp : (isUn p || isSl p) = true
            · rw [if_pos hp] at q1; exact q1.elim
            · rw [if_neg hp] at q1 ⊢
              rw [Bool.not_eq_true, Bool.or_eq_false_iff] at hp
              unfold FRP
              refine ⟨hp.2, hp.1, fun v H' F' R3 => ?_⟩
              rw [pa] at R3
              exact q1 v H' F' R3
        | _ => exact q1.elim
  · rw [if_neg hz] at q1; exact q1.elim
end

/-- a class with its __init__ -/
structure HasC (P : Program) (w : World) (K : PySem.W.Frag) (mg : Str → Option Value) (base : Heap) (k : Nat) (c : Str) (ps : List Str) (fden : List D → FR) (dd : List D) : Prop where
  ex : ∃ C f fd dvs dsv, FnD P w K mg base k f fd ps fden ∧ mg c = some (.ref C) ∧ Mk K C f ∧ Binds K fd ps dsv ∧ Vals dvs dsv ∧ dsv.length = dd.length ∧ ∀ F H, RpL K mg F H dd dvs []
structure HasCK (P : Program) (w : World) (K : PySem.W.Frag) (mg : Str → Option Value) (base : Heap) (k : Nat) (c : Str) (ps ks : List Str) (ord : List Nat) (fden : List D → FR) (dd : List D) : Prop where
  ex : ∃ C f fd dvs dsv, FnD P w K mg base k f fd ps fden ∧ mg c = some (.ref C) ∧ Mk K C f ∧ (∀ (s : Shared) (w : Value) (ws : List Value), K.In s.heap → ws.length = ks.length → BindsTo s fd ⟨[w], ks.zip ws⟩ (ps.zip (w :: ordL .none ord (ws ++ dsv)))) ∧ Vals dvs dsv ∧ dsv.length = dd.length ∧ ∀ F H, RpL K mg F H dd dvs []
section
variable {X : Cx} {W : WX} {k : Nat} {f C : Addr} {fd : FuncData} {ps ks : List Str} {dd : List D} {fden : List D → FR} {x c : Str} {p pos : Pos} {e : Expr} {es : List Expr} {kws : List Keyword} {da dk : Dn (List D)} {ord : List Nat}
theorem lenA_imp {n : Nat} {den : Dn (List D)} (hl : LenIs n den) (σ : L2.St) (H : Hp) (Q : List V → Hp → Prop) (h : rdA X.K X.mg W den σ H Q) : rdA X.K X.mg W den σ H (fun ws H' => ws.length = n ∧ Q ws H') := by
  obtain ⟨B, F, env, ts, vs, R, q⟩ := h
  refine ⟨B, F, env, ts, vs, R, ?_⟩
  cases e : den env with
  | ok xs e1 => rw [e] at q; exact fun ws H' F' h1 h3 => ⟨by rw [← h1]; exact hl _ _ _ e, q ws H' F' h1 h3⟩
  | er _ _ _ _ => rw [e] at q; exact q
  | no => rw [e] at q; exact q
theorem ge_mk (tk : Takes X W) (hgd : X.A.guards = some []) (h : HasC X.prog X.w X.K X.mg X.base k c ps fden dd) (hr : Room (k + 1) X.A) (ha : GA X W (e :: es) da) (hlen : LenIs (e :: es).length da) (hn : (e :: es).length + 1 + dd.length = ps.length := by rfl) (hg : Gl X c := by rfl) (hdb : (c == ("__debug__" : Str)) = false := by decide)
    (he : starEach (e :: es) X.env = (false, eval e X.env) :: starEach es X.env := by rfl) (hpl : (backTo pos (starEach es X.env)).any (·.1) = false := by rfl) : GE X W (.Call (.Name c p) (e :: es) [] pos) (dMk c ps.length fden dd da) := by
  obtain ⟨C, f, fd, dvs, dsv, F, hm, M, hb, hd, hdl, hdd⟩ := h.ex
  refine PE.imp (pe_makeG tk hgd M F hr hg hm hb hd ha (fun σ H Q q => ?_) hdb he hpl) fun σ H Q q => mk_imp rfl hdd hd.length hm q
  have z := lenA_imp hlen σ H _ q
  obtain ⟨B, F, env, ts, vs, R, q⟩ := z
  refine ⟨B, F, env, ts, vs, R, q.mono (fun xs e1 h v H1 F1 hl R1 => ?_) fun _ _ _ _ z => z⟩
  have z := h v H1 F1 hl R1
  exact ⟨by rw [z.1, hdl]; exact hn, z.2⟩
theorem ge_mk0 (tk : Takes X W) (hgd : X.A.guards = some []) (h : HasC X.prog X.w X.K X.mg X.base k c ps fden dd) (hr : Room (k + 1) X.A) (hn : 1 + dd.length = ps.length := by rfl) (hg : Gl X c := by rfl) (hdb : (c == ("__debug__" : Str)) = false := by decide) : GE X W (.Call (.Name c p) [] [] pos) (dMk c ps.length fden dd dNil) := by
  obtain ⟨C, f, fd, dvs, dsv, F, hm, M, hb, hd, hdl, hdd⟩ := h.ex
  refine PE.imp (pe_makeG0 tk hgd M F hr hg hm hb hd (by omega) hdb) fun σ H Q q => ?_
  have z := mk_imp rfl hdd hd.length hm q
  obtain ⟨B, F, env, ts, vs, R, q⟩ := z
  exact q [] H F rfl (by rw [List.append_nil, List.append_nil]; exact R)
theorem ge_mkK (tk : Takes X W) (hgd : X.A.guards = some []) (h : HasCK X.prog X.w X.K X.mg X.base k c ps ks ord fden dd) (hr : Room (k + 1) X.A) (hkw : GK X W kws dk) (hlen : LenIs ks.length dk) (hn : ord.length + 1 = ps.length := by rfl) (hg : Gl X c := by rfl) (hdb : (c == ("__debug__" : Str)) = false := by decide)
    (hall : (backToKw pos (keywordEach kws X.env)).all (·.1.isSome) = true := by rfl) (hks : (backToKw pos (keywordEach kws X.env)).filterMap (·.1) = ks := by rfl)
    (hpl : ((backTo pos (starEach [] X.env)).any (·.1) || (backToKw pos (keywordEach kws X.env)).any (·.1.isNone)) = false := by rfl) : GE X W (.Call (.Name c p) [] kws pos) (dMkK c ord fden dd dk) := by
  obtain ⟨C, f, fd, dvs, dsv, F, hm, M, hb, hd, hdl, hdd⟩ := h.ex
  exact PE.imp (pe_makeGK (ord := ord) (dsv := dsv) tk hgd M F hr hg hm hb hd hkw (len_imp hlen) hdb hall hks hpl) fun σ H Q q => mkK_imp hn hdd hm q
end
end DL
set_option Elab.async false
set_option linter.all false
set_option maxRecDepth 100000
set_option maxHeartbeats 4000000
/-! DLy: a field read, stored; methods, properties. -/
namespace DL
open PySem L2
open PyProof.Rows (AllBare)

/-! ### e.f -/
def fFld (c n : Str) : D → Option D
  | .obj _ c' ns xs => if c' = c then ((ns.zip xs).lookup n).bind fun d => if froz d then some d else none else none
  | _ => none
/-- a class whose instances are read and written plainly; n is no name of it -/
structure Ob (K : PySem.W.Frag) (mg : Str → Option Value) (c : Str) : Prop where
  ex : ∃ C, mg c = some (.ref C) ∧ Cls K C
structure ObF (K : PySem.W.Frag) (mg : Str → Option Value) (c n : Str) : Prop where
  ex : ∃ C, mg c = some (.ref C) ∧ Cls K C ∧ NoAttr K C n
section
variable {K : PySem.W.Frag} {mg : Str → Option Value} {B : Bd} {σ : L2.St} {F F' H H' : Hp} {env ts us : List D} {vs ws : List V} {d : D} {v : V} {ow : Own → List Addr}
theorem RpL.lookF {n : Str} : ∀ {ns : List Str} {xs : List D} {vs : List V} {d : D} {S : List Addr}, RpL K mg F H xs vs S → (ns.zip xs).lookup n = some d → DL.froz d = true → ∃ v, (ns.zip vs).lookup n = some v ∧ Rp K mg F H d v []
  | [], _, _, _, _, _, h, _ => by simp at h
  | _ :: _, [], _, _, _, _, h, _ => by simp at h
  | m :: ns, x :: xs, vs, d, S, hr, h, z => by
    unfold RpL at hr
    obtain ⟨v, r, S1, S2, rfl, rfl, h1, h2⟩ := hr
    rw [List.zip_cons_cons, List.lookup_cons] at h ⊢
    cases q : n == m with
    | true =>
      rw [q] at h
      cases h
      have e := h1.froz z
      subst e
      exact ⟨v, rfl, h1⟩
    | false => rw [q] at h; exact RpL.lookF h2 h z
theorem zip_none {n : Str} : ∀ {ns : List Str} {vs : List V}, ns.contains n = false → (ns.zip vs).lookup n = none
  | [], _, _ => rfl
  | _ :: _, [], _ => rfl
  | m :: ns, v :: vs, h => by
    rw [List.contains_cons, Bool.or_eq_false_iff] at h
    rw [List.zip_cons_cons, List.lookup_cons, h.1]
    exact zip_none h.2
/-- an instance in the heap -/
theorem Rp.ins {c : Str} {o : Bool} {ns : List Str} {xs : List D} {S : List Addr} {C : Addr} (h : Rp K mg F H (.obj o c ns xs) v S) (ex : Ex F H) (hC : mg c = some (.ref C)) : ∃ a dx vs S', v = .ref a ∧ ns.length = xs.length ∧ RpL K mg F H xs vs S' ∧ H a = some (.ins C dx (ns.zip vs)) := by
  unfold Rp at h
  obtain ⟨a, C', dx, vs, S', rfl, hc, hl, hr, ho⟩ := h
  rw [hC] at hc
  cases hc
  refine ⟨a, dx, vs, S', rfl, hl, hr, ?_⟩
  cases o with
  | true => rw [if_pos rfl] at ho; exact ho.1
  | false => rw [if_neg Bool.false_ne_true] at ho; exact ex _ _ ho.1
end
theorem ge_fld {X : Cx} {W : WX} {e : Expr} {da : Dn D} {pos : Pos} {c n : Str} (h : ObF X.K X.mg c n) (he : GE X W e da) (hb : attributeBase e n X.env (eval e X.env) = eval e X.env := by rfl) : GE X W (.Attribute e n pos) (dUn (fFld c n) da) := by
  obtain ⟨C, hC, hc, hn⟩ := h.ex
  refine PE.imp (pe_fld he hb) fun σ H Q ⟨B, F, env, ts, vs, R, q⟩ => ?_
  refine ⟨B, F, env, ts, vs, R, (ResP.bind q).mono (fun x e1 q1 v H1 F1 R1 => ?_) fun _ _ _ _ z => z⟩
  obtain ⟨d, ed, k⟩ := q1.lift
  unfold fFld at ed
  split at ed
  · rename_i o c' ns xs er
    split at ed
    · rename_i hcc
      subst hcc
      obtain ⟨d', el, ed⟩ := Option.bind_eq_some_iff.mp ed
      split at ed
      · rename_i hf
        cases ed
        obtain ⟨S, rx⟩ := R1.last (fun z => by rw [z] at er; cases er)
        rw [er] at rx
        obtain ⟨a, dx, ws, S', rfl, hl, hr, ha⟩ := rx.ins R1.ex hC
        obtain ⟨u, lu, ru⟩ := RpL.lookF hr el hf
        exact ⟨a, C, dx, _, u, rfl, ha, hc, hn, lu, k _ _ _ ((R1.drop rfl).push0 (Tm.of ru))⟩
      · cases ed
    · cases ed
  · cases ed

/-! ### o.f = e -/
def fIxN : List Str → Str → Option Nat
  | [], _ => none
  | m :: ns, n => if m = n then some 0 else (fIxN ns n).map (· + 1)
def putO (c n : Str) (d u : D) : Option D := match d with
  | .obj true c' ns xs => if c' = c ∧ ns.length < 1000 then match fIxN ns n with
    | some i => some (.obj true c ns (xs.set i u))
    | none => some (.obj true c (ns ++ [n]) (xs ++ [u]))
    else none
  | _ => none
theorem fIxN_lt : ∀ {ns : List Str} {n : Str} {i : Nat}, fIxN ns n = some i → i < ns.length
  | [], _, _, h => by cases h
  | m :: ns, n, i, h => by
    unfold fIxN at h
    split at h
    · cases h; simp
    · obtain ⟨j, hj, rfl⟩ := Option.map_eq_some_iff.mp h
      have := fIxN_lt hj
      simp only [List.length_cons]; omega
theorem putF_new {n : Str} {u : V} : ∀ {ns : List Str} {vs : List V}, ns.length = vs.length → fIxN ns n = none → putF n u (ns.zip vs) = (ns ++ [n]).zip (vs ++ [u])
  | [], [], _, _ => rfl
  | [], _ :: _, h, _ => by cases h
  | _ :: _, [], h, _ => by cases h
  | m :: ns, v :: vs, h, hi => by
    unfold fIxN at hi
    split at hi
    · cases hi
    · rename_i hm
      have hi' : fIxN ns n = none := by
        cases q : fIxN ns n with
        | none => rfl
        | some j => rw [q] at hi; cases hi
      rw [List.cons_append, List.cons_append, List.zip_cons_cons, List.zip_cons_cons]
      unfold putF
      rw [if_neg hm, putF_new (by simpa using h) hi']
theorem putF_old {n : Str} {u : V} : ∀ {ns : List Str} {vs : List V} {i : Nat}, ns.length = vs.length → fIxN ns n = some i → putF n u (ns.zip vs) = ns.zip (vs.set i u)
  | [], _, _, _, hi => by cases hi
  | _ :: _, [], _, h, _ => by cases h
  | m :: ns, v :: vs, i, h, hi => by
    unfold fIxN at hi
    split at hi
    · rename_i hm
      cases hi
      rw [List.set_cons_zero, List.zip_cons_cons, List.zip_cons_cons]
      unfold putF
      rw [if_pos hm]
    · rename_i hm
      obtain ⟨j, hj, rfl⟩ := Option.map_eq_some_iff.mp hi
      rw [List.set_cons_succ, List.zip_cons_cons, List.zip_cons_cons]
      unfold putF
      rw [if_neg hm, putF_old (by simpa using h) hj]
/-- value, then the instance -/
@[simp] def nFput (c n : Str) (a o : Dn D) : Sn := fun env => (dU a env).out fun u e => (o e).out fun x e => match x with
  | .sl i => match putO c n (e.getD i .un) u with
    | some d => .nx (e.set i d)
    | none => .no
  | _ => .no
section
variable {K : PySem.W.Frag} {mg : Str → Option Value} {B : Bd} {σ : L2.St} {F F' H H' : Hp} {env ts us : List D} {vs ws : List V} {d : D} {v : V} {ow : Own → List Addr}
theorem RE.putO {i : Nat} {u d' : D} {c n : Str} {p : V} {C : Addr} (R : RE K mg B σ H F env (ts ++ [u]) (vs ++ [v])) (hu : ∀ i, u ≠ .sl i) (hp : σ[i]? = some (some p)) (hC : mg c = some (.ref C)) (h : DL.putO c n (env.getD i .un) u = some d') :
    ∃ a dx fs, p = .ref a ∧ H a = some (.ins C dx fs) ∧ fs.length < 1000 ∧ RE K mg B σ (upd H a (.ins C dx (putF n v fs))) F (env.set i d') ts vs := by
  rw [List.getD_eq_getElem?_getD] at h
  cases he : env[i]? with
  | none => rw [he] at h; cases h
  | some d =>
    rw [he, Option.getD_some] at h
    cases d with
    | obj o c' ns xs =>
      cases o with
      | false => cases h
      | true =>
        obtain ⟨v', S0, S1, ev, rp0, rp1, nd, go⟩ := R.mut rfl (fun x hx => by
          rcases List.mem_cons.mp hx with z | z
          · rw [z]; exact hu
          · exact absurd z List.not_mem_nil) he rfl
        rw [hp] at ev
        cases ev
        obtain ⟨u', eu, ru⟩ := rp1.one_inv
        cases eu
        unfold DL.putO at h
        dsimp only at h
        by_cases hz : c' = c ∧ ns.length < 1000
        · rw [if_pos hz] at h
          obtain ⟨rfl, hn1000⟩ := hz
          unfold Rp at rp0
          obtain ⟨a, C', dx, ws, S', rfl, hc, hk, hl, ho⟩ := rp0
          rw [hC] at hc
          cases hc
          rw [if_pos rfl] at ho
          obtain ⟨ha, rfl⟩ := ho
          have hlw := hl.len
          obtain ⟨nd0, nd1, dis⟩ := List.nodup_append.mp nd
          obtain ⟨na, nd2⟩ := List.nodup_cons.mp nd0
          have an : ∀ b ∈ S1, b ≠ a := fun b hb z => dis a List.mem_cons_self b hb z.symm
          have el : (ns.zip ws).length = ns.length := by rw [List.length_zip]; omega
          refine ⟨a, dx, ns.zip ws, rfl, ha, by rw [el]; exact hn1000, ?_⟩
          cases hx : fIxN ns n with
          | none =>
            rw [hx] at h
            cases h
            rw [putF_new (by omega) hx]
            have z := go a (.ins C dx ((ns ++ [n]).zip (ws ++ [v]))) (.obj true c' (ns ++ [n]) (xs ++ [u])) [] [] (a :: (S' ++ S1)) [] List.mem_cons_self ?_ RpL.nil ?_ ?_
            · rw [List.append_nil, List.append_nil] at z; exact z
            · unfold Rp
              exact ⟨a, C, dx, ws ++ [v], S' ++ S1, rfl, hC, by simp [hk], (hl.stay (Ex.refl F) fun b hb => upd_ne fun z => na (by rw [← z]; exact hb)).append (RpL.one (ru.stay (Ex.refl F) fun b hb => upd_ne (an b hb))), by rw [if_pos rfl]; exact ⟨upd_same, rfl⟩⟩
            · rw [List.append_nil]; exact nd
            · intro b hb; rw [List.append_nil] at hb; exact hb
          | some j =>
            rw [hx] at h
            cases h
            have hj := fIxN_lt hx
            obtain ⟨x, hx2⟩ : ∃ x, xs[j]? = some x := ⟨xs[j]'(by omega), by simp⟩
            obtain ⟨w, v1, v2, T1, T2, T3, rfl, hl1, rfl, q1, q2, q3⟩ := hl.at hx2
            rw [putF_old (by omega) hx, set_mid hl1]
            have st : ∀ {b : Addr}, b ∈ T1 ++ (T2 ++ T3) → b ≠ a := fun {b} hb z => na (by rw [← z]; exact hb)
            have cnt : (a :: (T1 ++ (S1 ++ T3))).Nodup ∧ ∀ b ∈ a :: (T1 ++ (S1 ++ T3)), b ∈ (a :: (T1 ++ (T2 ++ T3))) ++ S1 := cnt_nd (fun b => by simp only [List.count_cons, List.count_append]; omega) nd
            have z := go a (.ins C dx (ns.zip (v1 ++ v :: v2))) (.obj true c' ns (xs.set j u)) [] [] (a :: (T1 ++ (S1 ++ T3))) [] List.mem_cons_self ?_ RpL.nil ?_ ?_
            · rw [List.append_nil, List.append_nil] at z; exact z
            · unfold Rp
              refine ⟨a, C, dx, v1 ++ v :: v2, T1 ++ (S1 ++ T3), rfl, hC, by simp [hk], ?_, by rw [if_pos rfl]; exact ⟨upd_same, rfl⟩⟩
              rw [set_split (by omega)]
              exact (q1.stay (Ex.refl F) fun b hb => upd_ne (st (List.mem_append_left _ hb))).append (RpL.cons (ru.stay (Ex.refl F) fun b hb => upd_ne (an b hb)) (q3.stay (Ex.refl F) fun b hb => upd_ne (st (List.mem_append_right _ (List.mem_append_right _ hb)))))
            · rw [List.append_nil]; exact cnt.1
            · intro b hb; rw [List.append_nil] at hb; exact cnt.2 b hb
        · rw [if_neg hz] at h; cases h
    | _ => cases h
end
theorem gs_fput {X : Cx} {W : WX} {P : List Nat} {o value : Expr} {pos pos' : Pos} {dv da : Dn D} {c n : Str} (h : ObF X.K X.mg c n) (ha : GE X W o da) (hv : GEU X W value (dU dv)) (hs : swapsWith value (some (.Attribute o n pos')) pos.line X.env = pure false := by rfl) :
    GS X W P (.Assign [.Attribute o n pos'] value pos) (nFput c n dv da) := by
  obtain ⟨C, hC, hc, hn⟩ := h.ex
  refine PS.imp (ps_fld ha hv hs) fun T σ H ⟨B, F, env, ts, vs, hpp, na, R, q⟩ => ?_
  unfold nFput at q
  refine ⟨B, F, env, ts, vs, R, (ResP.out q).mono (fun u e1 q1 v H1 F1 hud R1 => ?_) fun _ _ _ _ z => z⟩
  refine ⟨B, F1, e1, ts ++ [u], vs ++ [v], R1, (ResP.out q1).mono (fun x e2 q2 w H2 F2 R2 => ?_) fun _ _ _ _ z => z.pop rfl⟩
  cases x with
  | sl j =>
    dsimp only at q2
    cases hk : DL.putO c n (e2.getD j .un) u with
    | none => rw [hk] at q2; exact q2.elim
    | some d =>
      rw [hk] at q2
      obtain ⟨hj, R3⟩ := RE.alias (us := []) (ws := []) R2 rfl
      rw [List.append_nil, List.append_nil] at R3
      obtain ⟨a, dx, fs, rfl, hH, hl, R4⟩ := R3.putO hud hj hC hk
      exact ⟨a, C, dx, fs, rfl, hH, hc, hn, hl, q2 _ _ _ R4⟩
  | _ => exact q2.elim

/-! ### methods -/
/-- an instance of the class c without a field m -/
def isOb (c m : Str) : D → Bool
  | .obj _ c' ns _ => decide (c' = c) && !(ns.contains m)
  | _ => false
structure HasM (P : Program) (w : World) (K : PySem.W.Frag) (mg : Str → Option Value) (base : Heap) (k : Nat) (c m : Str) (ps : List Str) (fden : List D → FR) (dd : List D) : Prop where
  ex : ∃ C f fd dvs dsv, FnD P w K mg base k f fd ps fden ∧ mg c = some (.ref C) ∧ Cls K C ∧ Meth K C m f ∧ Binds K fd ps dsv ∧ Vals dvs dsv ∧ ∀ F H, RpL K mg F H dd dvs []
@[simp] def dMethO (c m : Str) (n : Nat) (fden : List D → FR) (dd : List D) (o : Dn D) (as : Dn (List D)) : Dn D := o.bind fun x env => if isOb c m (rs env x) then dFn n fden dd (dCons (fun e => .ok x e) as) env else .no
section
variable {X : Cx} {W : WX} {k : Nat} {c m : Str} {ps : List Str} {dd : List D} {fden : List D → FR} {p pos apos : Pos} {o e : Expr} {es : List Expr} {da : Dn D} {dr : Dn (List D)}
theorem call_imp' {n : Nat} {dvs : List V} (hdd : ∀ F H, RpL X.K X.mg F H dd dvs []) {B : Bd} {σ : L2.St} {H F : Hp} {env ts ds : List D} {vs ws : List V} {Q : VK} (R : RE X.K X.mg B σ H F env (ts ++ ds) (vs ++ ws)) (hl : ds.length = ws.length)
    (q : ResP (if ds.length + dd.length = n then match takeA ds env with
      | none => Res.no
      | some (xs, e1) => match fden (xs ++ dd) with
        | .ok d ps => if isSl d || isUn d then .no else .ok d (putA ds ps e1)
        | .er c ns ys ps => .er c ns ys (putA ds ps e1)
        | .no => .no
      else .no) (fun d e => ∀ v H' F', RE X.K X.mg B σ H' F' e (ts ++ [d]) (vs ++ [v]) → Q v H') (ErrK X.K X.mg W B σ ts vs)) : spD X.K X.mg n fden (ws ++ dvs) H Q (WE W σ) := by
  by_cases hz : ds.length + dd.length = n
  · rw [if_pos hz] at q
    cases ht : takeA ds env with
    | none => rw [ht] at q; exact q.elim
    | some pr =>
      obtain ⟨xs, e1⟩ := pr
      rw [ht] at q
      dsimp only at q
      have hdl := (hdd F H).len
      refine RE.back R hl ht (hdd F H) (by rw [List.length_append]; omega) ?_
      unfold FRP
      cases hf : fden (xs ++ dd) with
      | no => rw [hf] at q; exact q.elim
      | er c ns ys ps => rw [hf] at q; exact fun cls dx H' F' R' ei => q cls dx H' F' R' ei
      | ok d ps =>
        rw [hf] at q
        dsimp only at q
        by_cases hp : (isSl d || isUn d) = true
        · rw [if_pos hp] at q; exact q.elim
        · rw [if_neg hp] at q
          have hp1 := Bool.or_eq_false_iff.mp ((Bool.not_eq_true _).mp hp)
          exact ⟨hp1.1, hp1.2, q⟩
  · rw [if_neg hz] at q; exact q.elim
theorem ob_at {B : Bd} {σ : L2.St} {H1 F1 : Hp} {e1 ts : List D} {vs : List V} {x : D} {v : V} {C : Addr} (hC : X.mg c = some (.ref C)) (R1 : RE X.K X.mg B σ H1 F1 e1 (ts ++ [x]) (vs ++ [v])) (h : isOb c m (rs e1 x) = true) : ∃ a dx fs, v = .ref a ∧ H1 a = some (.ins C dx fs) ∧ fs.lookup m = none := by
  cases hr : rs e1 x with
  | obj o c' ns xs =>
    rw [hr] at h
    unfold isOb at h
    rw [Bool.and_eq_true, decide_eq_true_eq, Bool.not_eq_true'] at h
    obtain ⟨rfl, hm⟩ := h
    obtain ⟨S, rx⟩ := R1.last (fun z => by rw [z] at hr; cases hr)
    rw [hr] at rx
    obtain ⟨a, dx, ws, S', rfl, hl, hr, ha⟩ := rx.ins R1.ex hC
    exact ⟨a, dx, _, rfl, ha, zip_none hm⟩
  | _ => rw [hr] at h; cases h
theorem ge_methO {pl : Sem Bool} (tk : Takes X W) (hgd : X.A.guards = some []) (h : HasM X.prog X.w X.K X.mg X.base k c m ps fden dd) (hr : Room k X.A) (ho : GE X W o da) (ha : GA X W (e :: es) dr)
    (hst : starEach (e :: es) X.env = (false, eval e X.env) :: starEach es X.env := by rfl) (hpl : (backTo pos (starEach es X.env)).any (·.1) = false := by rfl)
    (ht : eval (.Call (.Attribute o m apos) (e :: es) [] pos) X.env = (do
      let ov ← eval o X.env
      standAt apos.atName
      let (f, first) ← holding [ov] (getMethod ov m pl)
      callWith pos f first (backTo pos (starEach (e :: es) X.env)) (backToKw pos (keywordEach [] X.env))) := by rfl) :
    GE X W (.Call (.Attribute o m apos) (e :: es) [] pos) (dMethO c m ps.length fden dd da dr) := by
  obtain ⟨C, f, fd, dvs, dsv, F0, hC, hc, hm, hb, hd, hdd⟩ := h.ex
  refine ⟨fun pins s σ H Q I ⟨B, F, env, ts, vs, R, q⟩ => ?_⟩
  refine PySem.W.methodCall_KW (pl := pl) (thn (ho.run pins s σ H (fun x H1 => ∃ a dx fs, x = .ref a ∧ H1 a = some (.ins C dx fs) ∧ fs.lookup m = none ∧ rdA X.K X.mg W dr σ H1 fun ws H2 => spD X.K X.mg ps.length fden (x :: (ws ++ dvs)) H2 Q (WE W σ)) I ?_) fun u s1 ⟨x, H1, I1, rx, a, dx, fs, ex, ea, l, q⟩ => ?_) ht
  · refine ⟨B, F, env, ts, vs, R, (ResP.bind q).mono (fun x e1 q1 v H1 F1 R1 => ?_) fun _ _ _ _ z => z⟩
    by_cases hi : isOb c m (rs e1 x) = true
    · rw [if_pos hi] at q1
      obtain ⟨a, dx, fs, rfl, ha, hl⟩ := ob_at hC R1 hi
      refine ⟨a, dx, fs, rfl, ha, hl, B, F1, e1, _, _, R1, ?_⟩
      have q2 := ResP.bind (r := dr e1) (ResP.bind (r := (dr e1).bind fun xs env => .ok (x :: xs) env) q1)
      refine q2.mono (fun xs e2 h2 ws H2 F2 hlw R2 => ?_) fun _ _ _ _ z => z.pop rfl
      rw [List.append_assoc, List.append_assoc] at R2
      exact call_imp' (ds := x :: xs) (ws := .ref a :: ws) hdd R2 (by simp [hlw]) h2
    · rw [if_neg hi] at q1; exact q1.elim
  · subst ex
    obtain rfl : u = Value.ref a := rx
    refine getmeth_ok I1 ea hc hm l ?_
    refine PySem.W.callWith_K (first := [.ref a]) (h₀ := X.base) I.ok.mod.kin hm.kp (thn (ha.run pos pins s1 σ H1 _ I1 q) fun us s2 ⟨vs, H2, I2, r, q2⟩ => ⟨I2.kIn, ?_⟩) hst hpl
    exact run_G (us := .ref a :: us) (vs := .ref a :: vs) F0 hr hgd hb hd (passAt tk σ) I2 (.cons rfl r) q2
theorem ge_methO0 {pl : Sem Bool} (tk : Takes X W) (hgd : X.A.guards = some []) (h : HasM X.prog X.w X.K X.mg X.base k c m ps fden dd) (hr : Room k X.A) (ho : GE X W o da)
    (ht : eval (.Call (.Attribute o m apos) [] [] pos) X.env = (do
      let ov ← eval o X.env
      standAt apos.atName
      let (f, first) ← holding [ov] (getMethod ov m pl)
      callWith pos f first (backTo pos (starEach [] X.env)) (backToKw pos (keywordEach [] X.env))) := by rfl) :
    GE X W (.Call (.Attribute o m apos) [] [] pos) (dMethO c m ps.length fden dd da dNil) := by
  obtain ⟨C, f, fd, dvs, dsv, F0, hC, hc, hm, hb, hd, hdd⟩ := h.ex
  refine ⟨fun pins s σ H Q I ⟨B, F, env, ts, vs, R, q⟩ => ?_⟩
  refine PySem.W.methodCall_KW (pl := pl) (thn (ho.run pins s σ H (fun x H1 => ∃ a dx fs, x = .ref a ∧ H1 a = some (.ins C dx fs) ∧ fs.lookup m = none ∧ spD X.K X.mg ps.length fden (x :: dvs) H1 Q (WE W σ)) I ?_) fun u s1 ⟨x, H1, I1, rx, a, dx, fs, ex, ea, l, q⟩ => ?_) ht
  · refine ⟨B, F, env, ts, vs, R, (ResP.bind q).mono (fun x e1 q1 v H1 F1 R1 => ?_) fun _ _ _ _ z => z⟩
    by_cases hi : isOb c m (rs e1 x) = true
    · rw [if_pos hi] at q1
      obtain ⟨a, dx, fs, rfl, ha, hl⟩ := ob_at hC R1 hi
      exact ⟨a, dx, fs, rfl, ha, hl, call_imp' (ds := [x]) (ws := [.ref a]) hdd R1 rfl q1⟩
    · rw [if_neg hi] at q1; exact q1.elim
  · subst ex
    obtain rfl : u = Value.ref a := rx
    refine getmeth_ok I1 ea hc hm l ?_
    exact PySem.W.callWith_K0 (first := [.ref a]) I1.kIn hm.kp (run_G (us := [.ref a]) (vs := [.ref a]) F0 hr hgd hb hd (passAt tk σ) I1 (.cons rfl .nil) q)

/-! ### properties: no exception out of a getter -/
structure HasP (P : Program) (w : World) (K : PySem.W.Frag) (mg : Str → Option Value) (base : Heap) (k : Nat) (c m : Str) (ps : List Str) (fden : List D → FR) : Prop where
  ex : ∃ C q f fd, FnD P w K mg base k f fd ps fden ∧ mg c = some (.ref C) ∧ Cls K C ∧ PropOf K C m q f ∧ Binds K fd ps [] ∧ ps.length = 1
@[simp] def dProp (c : Str) (fden : List D → FR) (o : Dn D) : Dn D := o.bind fun x env => if isOb c "" (rs env x) then match takeA [x] env with
  | none => .no
  | some (xs, e1) => match fden xs with
    | .ok d ps => if isSl d || isUn d then .no else .ok d (putA [x] ps e1)
    | _ => .no
  else .no
theorem ge_prop (hgd : X.A.guards = some []) (h : HasP X.prog X.w X.K X.mg X.base k c m ps fden) (hr : Room (k + 1) X.A) (ho : GE X W o da) (hab : attributeBase o m X.env (eval o X.env) = eval o X.env := by rfl) : GE X W (.Attribute o m pos) (dProp c fden da) := by
  obtain ⟨C, p, g, fd, F0, hC, hc, hp, hb, hps⟩ := h.ex
  refine ⟨fun pins s σ H Q I ⟨B, F, env, ts, vs, R, q⟩ => ?_⟩
  refine attr_of hab (thn (ho.run pins s σ H (fun x H1 => ∃ a dx fs, x = .ref a ∧ H1 a = some (.ins C dx fs) ∧ spD X.K X.mg ps.length fden [x] H1 Q fun _ _ _ => False) I ?_) fun u s1 ⟨x, H1, I1, rx, a, dx, fs, ex, ea, q⟩ => ?_)
  · refine ⟨B, F, env, ts, vs, R, (ResP.bind q).mono (fun x e1 q1 v H1 F1 R1 => ?_) fun _ _ _ _ z => z⟩
    by_cases hi : isOb c "" (rs e1 x) = true
    · rw [if_pos hi] at q1
      obtain ⟨a, dx, fs, rfl, ha, _⟩ := ob_at hC R1 hi
      refine ⟨a, dx, fs, rfl, ha, ?_⟩
      cases ht : takeA [x] e1 with
      | none => rw [ht] at q1; exact q1.elim
      | some pr =>
        obtain ⟨xs, e2⟩ := pr
        rw [ht] at q1
        dsimp only at q1
        have z := RE.back (fden := fden) (ddx := []) (dvx := []) (n := ps.length) (Q := Q) (E := fun _ _ _ => False) R1 rfl ht RpL.nil (by rw [hps]; rfl) ?_
        · exact z
        · rw [List.append_nil]
          unfold FRP
          cases hf : fden xs with
          | no => rw [hf] at q1; exact q1.elim
          | er c ns ys ps => rw [hf] at q1; exact q1.elim
          | ok d ps =>
            rw [hf] at q1
            dsimp only at q1
            by_cases hp : (isSl d || isUn d) = true
            · rw [if_pos hp] at q1; exact q1.elim
            · rw [if_neg hp] at q1
              have hp1 := Bool.or_eq_false_iff.mp ((Bool.not_eq_true _).mp hp)
              exact ⟨hp1.1, hp1.2, q1⟩
    · rw [if_neg hi] at q1; exact q1.elim
  · subst ex
    obtain rfl : u = Value.ref a := rx
    obtain ⟨mA, O, _, _, _, _⟩ := ins_get I1.hok ea
    obtain ⟨od, J, _⟩ := O.look
    obtain ⟨rest, hrec⟩ := hp.rec_
    have I2 := I1.tok (s1.toks + 1)
    have hc' : (PySem.W.clsIn X.K C).isSome = true := by
      obtain ⟨cd, hc, _⟩ := PySem.W.any_some hc.hd
      rw [hc]
      rfl
    refine PySem.W.get_bind I1.kIn J (PySem.W.plainGet_of (hc.get m)).1 (PySem.W.findObj_data hc' hp.at_ hp.get hp.tak) (PySem.W.plainGet_of (hc.get m)).2 (wpAny_call (PySem.W.prop_get (s := { s1 with toks := s1.toks + 1 }) I1.kIn hrec ?_))
    refine codeAny_mono (F0.run X.A.in1 X.stack { s1 with toks := s1.toks + 1 } H1 ⟨[.ref a], []⟩ [.ref a] [.ref a] Q (fun _ _ _ => False) hr.in1 hgd I2.env0.in1 (hb _ [.ref a] I2.kIn (by rw [hps]; rfl)) (.cons rfl .nil) q) fun r s' hq => ?_
    cases r with
    | error er => obtain ⟨_, _, _, _, _, _, _, _, _, _, _, _, z⟩ := (show L2.CX X.prog X.w X.stack H1 _ (fun _ _ _ => False) er s' from hq); exact z.elim
    | ok fl =>
      cases fl with
      | ret u =>
        obtain ⟨v, H', I3, rv, q3⟩ := I2.after hq
        show wpAny _ _ (handedOut u) _ _ _
        rw [PySem.W.handedOut_of (handed_of rv)]
        exact wpAny_pure ⟨v, H', I3, rv, q3⟩
      | next => exact False.elim hq
      | brk => exact False.elim hq
      | cont => exact False.elim hq
end
end DL
set_option Elab.async false
set_option linter.all false
set_option maxRecDepth 100000
set_option maxHeartbeats 4000000
/-! DMa: dicts walked, made, read; sorted of tuples and dicts; len(set(..)); isinstance(.., (.., ..)). -/
namespace DL
open PySem L2
open PyProof.Rows (AllBare)

def CallOr {X : Cx} {f : Value} {r r' : List V → Hp → VK → Prop} (h : CallR X f r) (h' : CallR X f r') : CallR X f (fun xs H Q => r xs H Q ∨ r' xs H Q) := fun pins s σ H xs us Q I rv q => q.elim (h pins s σ H xs us Q I rv) (h' pins s σ H xs us Q I rv)
def fOrC (f g : List D → Option D) (ds : List D) : Option D := match f ds with
  | some d => some d
  | none => g ds
theorem CaS.or {K : PySem.W.Frag} {mg : Str → Option Value} {r r' : List V → Hp → VK → Prop} {f g : List D → Option D} (h : CaS K mg r f) (h' : CaS K mg r' g) : CaS K mg (fun xs H Q => r xs H Q ∨ r' xs H Q) (fOrC f g) := by
  intro B σ H F env ts vs dx vx d Q R a e k
  unfold fOrC at e
  cases q : f dx with
  | some d' => rw [q] at e; cases e; exact .inl (h B σ H F env ts vs dx vx d Q R a q k)
  | none => rw [q] at e; exact .inr (h' B σ H F env ts vs dx vx d Q R a e k)

/-! ### sorted -/
theorem sorted_pairsT {prog : Program} {w : World} {A : Around} {E : Value → Shared → Prop} {s : Shared} {l : Addr} {vs : List Value} {k : Value → Int × Int} {Q : Value → Shared → Prop} (hl : s.heap.IsTuple l vs.toArray) (hz : vs.length ≤ sizeLine) (hp : ∀ v ∈ vs, Srt.IsPair s.heap v (k v).1 (k v).2)
    (h : ∀ (h' : Heap) (d : Addr) (out : List Value), SrtO.Srtd (fun v u => SrtO.lexB (k v) (k u)) out → SrtO.Stb (fun v u => SrtO.lexB (k v) (k u)) out vs → (∀ b o, s.heap.get? b = some o → h'.get? b = some o) → s.heap.get? d = none → (∃ n, h'.get? d = some (PyProof.Rows.seqObj "list" out.toArray n)) → Q (.ref d) { s with heap := h' }) :
    wpAny (model prog w) A (call (.builtin "sorted") [.ref l]) Q E s := by
  refine Calls.call_function_entry PyProof.Rows.kind_sorted PyProof.Rows.plain_sorted PyProof.Rows.entry_sorted (PyProof.Rows.args_sorted1 _) ?_
  unfold Builtin.«sorted»
  refine wpAny_bind (m := checkCount "sorted" 1 1 _) (wpAny_pure ?_)
  obtain ⟨o, ho, hc, n, hd⟩ := id hl
  refine wpAny_bind (wpAny_collect_seq l (.inr rfl) ho hc hd (fun h1 k1 => ?_) (by simpa using hz))
  have ez : vs.toArray.toList = vs := by simp
  rw [ez]
  refine wpAny_bind (wpAny_newList ?_ hz)
  have hoL : (h1.push (PyProof.Rows.seqObj "list" vs.toArray 0)).get? h1.objs.size = some (PyProof.Rows.seqObj "list" vs.toArray 0) := Heap.get?_push_size _ rfl
  have hle : s.heap.get? h1.objs.size = none := by
    cases q : s.heap.get? h1.objs.size with
    | none => rfl
    | some u => exact absurd (Heap.lt_size (k1 _ _ q)) (Nat.lt_irrefl _)
  show wpAny _ _ _ _ _ { s with heap := h1.push (PyProof.Rows.seqObj "list" vs.toArray 0) }
  refine wpAny_bind (wpAny_holding (wpAny_call_entry PyProof.Rows.slot_list_sort ⟨_, hoL, rfl⟩ PyProof.Rows.entry_list_sort (SrtO.list_sort_ord (SrtO.swo_lex k) hoL hz (fun h2 => ?_) fun out hs hb => ⟨_, rfl, ?_⟩) (PyProof.Rows.args_list_sort _)))
  · refine SrtO.pairs_sortableO (s := { s with heap := h1.push (PyProof.Rows.seqObj "list" vs.toArray 0) }) (by omega) (fun v hm => (hp v hm).keeps fun b o e _ => Heap.get?_push_of_some _ (k1 b o e)) fun o e => ?_
    have e' : some o = some (PyProof.Rows.seqObj "list" vs.toArray 0) := e.symm.trans hoL
    cases e'
    intro c
    exact absurd (Value.type.inj c) (by decide)
  · obtain ⟨e', he'⟩ := PyProof.Rows.sortedHeap_at (vs := vs) (out := out.toArray) hoL
    refine wpAny_pure ⟨_, rfl, h _ _ out hs hb (fun b o e => ?_) hle ⟨e', he'⟩⟩
    have hb := Heap.lt_size (k1 b o e)
    rw [PyProof.Rows.sortedHeap_old (Nat.ne_of_lt hb) (by rw [PyProof.Rows.size_push']; exact Nat.lt_succ_of_lt hb)]
    exact Heap.get?_push_of_some _ (k1 b o e)
/-- .. of a tuple of pairs -/
def rSortedQT (K : PySem.W.Frag) : List V → Hp → VK → Prop := fun vs H Q => ∃ (F : Hp) (a : Addr) (ts : List Addr) (ps : List (Int × Int)), Ex F H ∧ vs = [V.ref a] ∧ SqT K H a (ts.map V.ref) ∧ Paired (PrAt K F) ts ps ∧
  ∀ ts' q, Paired (PrAt K F) ts' (ps.mergeSort lexLe) → H q = none → Q (.ref q) (upd H q (.lst (ts'.map V.ref)))
theorem vals_refs_inv : ∀ {ts : List Addr} {us : List Value}, Vals (ts.map V.ref) us → us = ts.map Value.ref
  | [], _, .nil => rfl
  | t :: ts, _, .cons r h => by
    obtain rfl := (show _ = Value.ref t from r)
    rw [vals_refs_inv h]
    rfl
theorem cr_sortedQT {X : Cx} : CallR X (.builtin "sorted") (rSortedQT X.K) := by
  intro pins s σ H xs us Q I r q
  obtain ⟨F, a, ts, ps, ex, rfl, hq, hpF, q⟩ := q
  obtain ⟨u, rfl, rx⟩ := vals1 r
  cases rx
  obtain ⟨its, rv, hl, hz⟩ := I.tuple hq
  have ei := vals_refs_inv rv
  subst ei
  have hp : Paired (PrAt X.K H) ts ps := paired_imp (fun t p h => ex.sqT h) hpF
  let k : Value → Int × Int := fun v => open Classical in if h : ∃ p : Int × Int, Srt.IsPair s.heap v p.1 p.2 then h.choose else (0, 0)
  have hk : ∀ t p, PrAt X.K H t p → k (.ref t) = p := fun t p h => by
    have e : ∃ p : Int × Int, Srt.IsPair s.heap (.ref t) p.1 p.2 := ⟨p, pr_heap I h⟩
    show (open Classical in if h : ∃ p : Int × Int, Srt.IsPair s.heap (.ref t) p.1 p.2 then h.choose else (0, 0)) = p
    rw [dif_pos e]
    have := isPair_uniq e.choose_spec (pr_heap I h)
    exact Prod.ext this.1 this.2
  have hpr : ∀ t ∈ ts, PrAt X.K H t (k (.ref t)) := fun t ht => by
    obtain ⟨p, h⟩ := paired_mem hp t ht
    rw [hk t p h]
    exact h
  have hprF : ∀ t ∈ ts, PrAt X.K F t (k (.ref t)) := fun t ht => by
    obtain ⟨p, h⟩ := paired_mem hpF t ht
    rw [hk t p (ex.sqT h)]
    exact h
  have hz' : (ts.map Value.ref).length ≤ sizeLine := by rw [← rv.length]; exact hz
  refine sorted_pairsT (k := k) hl hz' (fun v hv => ?_) fun h' d out h1 h2 kp hd hn => ?_
  · obtain ⟨t, ht, rfl⟩ := List.mem_map.mp hv
    exact pr_heap I (hpr t ht)
  · obtain ⟨n, hn⟩ := hn
    obtain ⟨ts', hts, rfl⟩ : ∃ ts' : List Addr, ts'.Perm ts ∧ out = ts'.map Value.ref := by
      exact perm_refs h2.perm
    have e1 : ps = ts.map fun t => k (.ref t) := (paired_map hk hp).symm
    have e2 : (ts'.map fun t => k (.ref t)) = ps.mergeSort lexLe := by
      refine lexLe_sort (by rw [e1]; exact hts.map _) ?_
      have h1' : (ts'.map Value.ref).Pairwise (fun x y => SrtO.lexB (k y) (k x) = false) := h1
      rw [List.pairwise_map] at h1' ⊢
      exact h1'.imp fun h => lexLe_of h
    have hg : H d = none := I.hok.gone hd
    refine ⟨.ref d, upd H d (.lst (ts'.map V.ref)), I.laidN (t' := s.toks) kp hd hg ⟨?_, ts'.map Value.ref, n, vals_rf ts', hn⟩, rfl, q ts' d ?_ hg⟩
    · rw [List.length_map, hts.length_eq, ← List.length_map (f := V.ref)]
      exact hz
    · rw [← e2]
      exact paired_fn fun t ht => hprF t (hts.mem_iff.mp ht)
def fSortPT : List D → Option D
  | [.tup xs] => (asPrs xs).map fun ps => .lst true ((ps.mergeSort lexLe).map prD)
  | _ => none
theorem cs_sortedQT {K : PySem.W.Frag} {mg : Str → Option Value} : CaS K mg (rSortedQT K) fSortPT := by
  intro B σ H F env ts vs dx vx d Q R h e k
  match dx, e with
  | [.tup xs], e =>
    obtain ⟨ps, hb, rfl⟩ := Option.map_eq_some_iff.mp e
    obtain ⟨v, S, rfl, rp⟩ := h.one
    rw [asPrs_inv hb] at rp
    unfold Rp at rp
    obtain ⟨a, us, rfl, hl, hs⟩ := rp
    obtain ⟨_, tt, rfl, hp⟩ := hl.prs
    exact ⟨F, a, tt, ps, R.ex, rfl, R.ex.sqT hs, hp, fun ts' q hq hn => k _ _ _ (R.newLst0 (rpL_prs hq) hn)⟩
/-- .. of a dict whose keys are ints -/
def keyInts : List Key → Option (List Int)
  | [] => some []
  | .inl i :: ks => (keyInts ks).map (i :: ·)
  | _ => none
theorem keyInts_inv : ∀ {ks : List Key} {ns : List Int}, keyInts ks = some ns → ks = ns.map Sum.inl
  | [], ns, h => by unfold keyInts at h; cases h; rfl
  | .inl i :: ks, ns, h => by
    unfold keyInts at h
    obtain ⟨ms, h1, rfl⟩ := Option.map_eq_some_iff.mp h
    rw [keyInts_inv h1]; rfl
  | .inr x :: ks, ns, h => by unfold keyInts at h; cases h
theorem keyInts_map : ∀ ns : List Int, keyInts (ns.map Sum.inl) = some ns
  | [] => by unfold keyInts; rfl
  | n :: ns => by rw [List.map_cons]; unfold keyInts; rw [keyInts_map ns]; rfl
def rSortedDk (K : PySem.W.Frag) : List V → Hp → VK → Prop := fun xs H Q => ∃ (a : Addr) (kvs : List (Key × V)) (ks : List Int), xs = [.ref a] ∧ Rd H a (.dK kvs) ∧ kvs.map (·.1) = ks.map Sum.inl ∧ ks.length < 64 ∧
    ∀ (ys : List Int) (p : Addr), ys.Perm ks → ys.Pairwise (· ≤ ·) → H p = none → Q (.ref p) (upd H p (.lst (ys.map V.int)))
def fSortD : List D → Option D
  | [.dct _ ks _] => (keyInts ks).bind fun ns => if ns.length < 64 then some (.lst true ((ns.mergeSort (· ≤ ·)).map .int)) else none
  | _ => none
theorem zip_fst {α β : Type} : ∀ {ks : List α} {vs : List β}, ks.length = vs.length → (ks.zip vs).map (·.1) = ks
  | [], _, _ => rfl
  | _ :: _, [], h => by cases h
  | k :: ks, v :: vs, h => by rw [List.zip_cons_cons, List.map_cons, zip_fst (by simpa using h)]
theorem cs_sortedDk {K : PySem.W.Frag} {mg : Str → Option Value} : CaS K mg (rSortedDk K) fSortD := by
  intro B σ H F env ts vs dx vx d Q R h e k
  match dx, e with
  | [.dct o ks xs], e =>
    obtain ⟨ns, hn, e⟩ := Option.bind_eq_some_iff.mp e
    split at e
    · rename_i h64
      cases e
      obtain ⟨v, S, rfl, rp⟩ := h.one
      obtain ⟨a, us, S', rfl, hl, hr, hs⟩ := dct_inv rp R.ex
      have hk := keyInts_inv hn
      refine ⟨a, _, ns, rfl, hs, by rw [zip_fst (by rw [hl, hr.len])]; exact hk, h64, fun ns' p hp hw hq => ?_⟩
      have e2 : ns' = ns.mergeSort (· ≤ ·) := by
        have p2 : ns'.Perm (ns.mergeSort (· ≤ ·)) := hp.trans (List.mergeSort_perm ns _).symm
        have w2 : (ns.mergeSort (· ≤ ·)).Pairwise (fun a b => decide (a ≤ b) = true) := List.pairwise_mergeSort (fun a b c h1 h2 => by simp only [decide_eq_true_eq] at *; omega) (fun a b => by simp only [Bool.or_eq_true, decide_eq_true_eq]; omega) ns
        exact p2.eq_of_pairwise (le := fun a b => a ≤ b) (fun a b _ _ h1 h2 => by omega) hw (w2.imp fun h => by simpa using h)
      rw [e2]
      exact k _ _ _ (R.newLst0 (RpL.ints _) hq)
    · cases e
def fSortA : List D → Option D := fOrC fSorted (fOrC fSortP (fOrC fSortPT fSortD))
section
variable {X : Cx} {W : WX} {e : Expr} {da : Dn (List D)} {p pos : Pos}
theorem ge_sortA (z : X.mg "sorted" = none) (hc : X.calm = true) (ha : GA X W [e] da) (hg : Gl X "sorted" := by rfl) (he : starEach [e] X.env = (false, eval e X.env) :: starEach [] X.env := by rfl) (hpl : (backTo pos (starEach [] X.env)).any (·.1) = false := by rfl) : GE X W (.Call (.Name "sorted" p) [e] [] pos) (dCall fSortA da) :=
  ge_callB (CallOr cr_sortedI (CallOr cr_sortedQ (CallOr cr_sortedQT (r' := rSortedDk X.K) (call_sortedDI hc)))) (CaS.or cs_sorted (CaS.or cs_sortedQ (CaS.or cs_sortedQT cs_sortedDk))) z rfl ha hg (by decide) (by decide) he hpl
end

/-! ### dict(..) -/
/-- a dict of ints to ints as a tree -/
def putI (m : List (Int × Int)) (p : Int × Int) : List (Int × Int) := if (m.any fun q => decide (q.1 = p.1)) = true then m.map (fun q => if q.1 = p.1 then (q.1, p.2) else q) else m ++ [p]
def mergeI (m ps : List (Int × Int)) : List (Int × Int) := ps.foldl putI m
def kvI (p : Int × Int) : Key × V := (.inl p.1, .int p.2)
theorem putI_kv (m : List (Int × Int)) (p : Int × Int) : putK (m.map kvI) (.inl p.1) (.int p.2) = (putI m p).map kvI := by
  unfold putK putI
  have e1 : ((m.map kvI).any fun kv => decide (kv.1 = Sum.inl p.1)) = m.any fun q => decide (q.1 = p.1) := by
    rw [List.any_map]
    congr 1
    funext q
    show decide ((Sum.inl q.1 : Key) = Sum.inl p.1) = _
    by_cases h : q.1 = p.1
    · rw [decide_eq_true h, decide_eq_true (by rw [h])]
    · rw [decide_eq_false h, decide_eq_false (fun z => h (by injection z))]
  rw [e1]
  split
  · rw [List.map_map, List.map_map]
    congr 1
    funext q
    show (if (Sum.inl q.1 : Key) = Sum.inl p.1 then ((Sum.inl q.1 : Key), V.int p.2) else kvI q) = kvI (if q.1 = p.1 then (q.1, p.2) else q)
    by_cases h : q.1 = p.1
    · rw [if_pos h, if_pos (by rw [h])]; rfl
    · rw [if_neg h, if_neg (fun z => h (by injection z))]
  · rw [List.map_append]; rfl
theorem mergeI_kv : ∀ (ps m : List (Int × Int)), mergeK (m.map kvI) (ps.map kvI) = (mergeI m ps).map kvI
  | [], m => rfl
  | p :: ps, m => by
    show mergeK (putK (m.map kvI) (.inl p.1) (.int p.2)) (ps.map kvI) = (mergeI (putI m p) ps).map kvI
    rw [putI_kv, mergeI_kv ps]
def iD (o : Bool) (m : List (Int × Int)) : D := .dct o (m.map fun p => .inl p.1) (m.map fun p => .int p.2)
theorem zip_kv : ∀ m : List (Int × Int), (m.map fun p => (Sum.inl p.1 : Key)).zip (m.map fun p => V.int p.2) = m.map kvI
  | [] => rfl
  | p :: m => by rw [List.map_cons, List.map_cons, List.zip_cons_cons, zip_kv m]; rfl
def rDictA (K : PySem.W.Frag) : List V → Hp → VK → Prop := fun xs H Q => (∃ (a : Addr) (ps : List Addr) (kvs : List (Key × V)), xs = [.ref a] ∧ SqL K H a (ps.map V.ref) ∧ Paired (fun p kv => SqT K H p [kV kv.1, kv.2]) ps kvs ∧
    ∀ p, H p = none → Q (.ref p) (upd H p (.dK (mergeK [] kvs)))) ∨ ∃ a kvs, xs = [.ref a] ∧ Rd H a (.dK kvs) ∧ ∀ p, H p = none → Q (.ref p) (upd H p (.dK kvs))
theorem call_dictA {X : Cx} (hc : X.calm = true) : CallR X (.type "dict") (rDictA X.K) := by
  intro pins s σ H xs us Q I r h
  rcases h with h | ⟨a, kvs, rfl, hd, q⟩
  · exact call_dictP hc pins s σ H xs us Q I r h
  · obtain ⟨u, rfl, rx⟩ := vals1 r
    cases rx
    exact d_copyOf I hd fun p s' hp I' => ⟨.ref p, _, I', rfl, q p hp⟩
def fDictA : List D → Option D
  | [.lst _ xs] => (asPrs xs).map fun ps => iD true (mergeI [] ps)
  | [.dct _ ks xs] => if frozL xs then some (.dct true ks xs) else none
  | _ => none
theorem RE.newDct0 {K : PySem.W.Frag} {mg : Str → Option Value} {B : Bd} {σ : L2.St} {F H : Hp} {env ts xs : List D} {vs ws : List V} {p : Addr} {ks : List Key} (R : RE K mg B σ H F env ts vs) (h : RpL K mg F H xs ws []) (hk : ks.length = xs.length) (hp : H p = none) : RE K mg B σ (upd H p (.dK (ks.zip ws))) F env (ts ++ [.dct true ks xs]) (vs ++ [.ref p]) := by
  obtain ⟨ow, r⟩ := R
  obtain ⟨n1, n2, n3⟩ := r.nout hp
  have r2 := r.newH (o := .dK (ks.zip ws)) hp
  refine ⟨_, r2.push (S := [p]) (Tm.of ?_) (fun a ha => ?_) (List.nodup_cons.mpr ⟨List.not_mem_nil, List.nodup_nil⟩)⟩
  · unfold Rp
    exact ⟨p, ws, [], rfl, hk, h.stay (Ex.refl F) fun a ha => absurd ha List.not_mem_nil, by rw [if_pos rfl]; exact ⟨upd_same, rfl⟩⟩
  · rcases List.mem_cons.mp ha with z | ha
    · subst z; exact ⟨n3, n2, n1⟩
    · exact absurd ha List.not_mem_nil
theorem rpL_ints2 {K : PySem.W.Frag} {mg : Str → Option Value} {F H : Hp} : ∀ m : List (Int × Int), RpL K mg F H (m.map fun p => D.int p.2) (m.map fun p => V.int p.2) []
  | [] => RpL.nil
  | p :: m => RpL.cons (S1 := []) (S2 := []) rp_int (rpL_ints2 m)
theorem paired_kv {K : PySem.W.Frag} {F H : Hp} (ex : Ex F H) : ∀ {ts : List Addr} {ps : List (Int × Int)}, Paired (PrAt K F) ts ps → Paired (fun p (kv : Key × V) => SqT K H p [kV kv.1, kv.2]) ts (ps.map kvI)
  | _, _, .nil => .nil
  | _, _, .cons h1 h => .cons (ex.sqT h1) (paired_kv ex h)
theorem cs_dictA {K : PySem.W.Frag} {mg : Str → Option Value} : CaS K mg (rDictA K) fDictA := by
  intro B σ H F env ts vs dx vx d Q R h e k
  match dx, e with
  | [.lst o xs], e =>
    obtain ⟨ps, hb, rfl⟩ := Option.map_eq_some_iff.mp e
    obtain ⟨v, S, rfl, rp⟩ := h.one
    rw [asPrs_inv hb] at rp
    obtain ⟨a, us, S', rfl, hl, hs⟩ := lst_inv rp R.ex
    obtain ⟨_, tt, rfl, hp⟩ := hl.prs
    refine .inl ⟨a, tt, ps.map kvI, rfl, Or.inl (Or.inl hs), ?_, fun p hp2 => ?_⟩
    · exact paired_kv R.ex hp
    · have e1 : mergeK [] (ps.map kvI) = (mergeI [] ps).map kvI := mergeI_kv ps []
      rw [e1, ← zip_kv]
      exact k _ _ _ (RE.newDct0 R (rpL_ints2 _) (by simp) hp2)
  | [.dct o ks xs], e =>
    unfold fDictA at e
    dsimp only at e
    split at e
    · rename_i hf
      cases e
      obtain ⟨v, S, rfl, rp⟩ := h.one
      obtain ⟨a, us, S', rfl, hl, hr, hs⟩ := dct_inv rp R.ex
      have e0 := hr.froz hf
      subst e0
      exact .inr ⟨a, _, rfl, hs, fun p hp2 => k _ _ _ (RE.newDct0 R hr hl hp2)⟩
    · cases e
section
variable {X : Cx} {W : WX} {e : Expr} {da : Dn (List D)} {p pos : Pos}
theorem ge_dictc (z : X.mg "dict" = none) (hc : X.calm = true) (ha : GA X W [e] da) (hg : Gl X "dict" := by rfl) (he : starEach [e] X.env = (false, eval e X.env) :: starEach [] X.env := by rfl) (hpl : (backTo pos (starEach [] X.env)).any (·.1) = false := by rfl) : GE X W (.Call (.Name "dict" p) [e] [] pos) (dCall fDictA da) :=
  ge_callTy (call_dictA hc) cs_dictA z rfl ha hg (by decide) (by decide) he hpl
end

/-! ### len of a dict -/
def rLenD : List V → Hp → VK → Prop := fun xs H Q => ∃ a kvs, xs = [V.ref a] ∧ Rd H a (.dK kvs) ∧ Q (.int (kvs.length : Nat)) H
theorem call_lenRd {X : Cx} : CallR X (.builtin "len") rLenD := by
  intro pins s σ H xs us Q I r h
  obtain ⟨a, kvs, rfl, ha, q⟩ := h
  obtain ⟨u, rfl, ru⟩ := vals1 r
  cases ru
  exact d_len I ha fun t s' I' => ⟨.int kvs.length, H, I', ⟨t, rfl⟩, q⟩
def fLenD : List D → Option D
  | [.dct _ ks _] => some (.int ks.length)
  | _ => none
theorem cs_lenD {K : PySem.W.Frag} {mg : Str → Option Value} : CaS K mg rLenD fLenD := by
  intro B σ H F env ts vs dx vx d Q R h e k
  match dx, e with
  | [.dct o ks xs], e =>
    cases e
    obtain ⟨v, S, rfl, rp⟩ := h.one
    obtain ⟨a, us, S', rfl, hl, hr, hs⟩ := dct_inv rp R.ex
    refine ⟨a, _, rfl, hs, ?_⟩
    rw [List.length_zip, ← hr.len, hl, Nat.min_self, ← hl]
    exact k _ H F (R.push0 (Tm.of rp_int))
def fLenA : List D → Option D := fOrC fLen fLenD
section
variable {X : Cx} {W : WX} {e : Expr} {da : Dn (List D)} {p pos : Pos}
theorem ge_lenA (z : X.mg "len" = none) (ha : GA X W [e] da) (hg : Gl X "len" := by rfl) (he : starEach [e] X.env = (false, eval e X.env) :: starEach [] X.env := by rfl) (hpl : (backTo pos (starEach [] X.env)).any (·.1) = false := by rfl) : GE X W (.Call (.Name "len" p) [e] [] pos) (dCall fLenA da) :=
  ge_callB (CallOr call_len_seq call_lenRd) (CaS.or cs_len cs_lenD) z rfl ha hg (by decide) (by decide) he hpl
end
end DL
set_option Elab.async false
set_option linter.all false
set_option maxRecDepth 100000
set_option maxHeartbeats 4000000
/-! DMb: d.get, list(d.items()), for .. in d, .. in d.items(); len(set(..)); isinstance(.., (.., ..)). -/
namespace DL
open PySem L2
open PyProof.Rows (AllBare)

/-! ### d.get(k, x) -/
def get3 (d k z : D) : Option D := match d with
  | .dct _ ks xs => (asKey k).bind fun kk => match kIx ks kk with
    | some i => (xs[i]?).bind fun v => if froz v then some v else none
    | none => if froz z then some z else none
  | _ => none
def isDk : D → Bool
  | .dct _ _ _ => true
  | _ => false
@[simp] def dGet2 (o k x : Dn D) : Dn D := o.bind fun d env => if isDk (rs env d) then ((k.bind fun y => x.bind fun z env => lift (get3 (rs env d) (rs env y) (rs env z)) env) : Dn D) env else .no
theorem ge_get2 {X : Cx} {W : WX} {o e f : Expr} {apos cpos : Pos} {dO dk dx : Dn D} (hu : X.A.units + 1 < cLine) (ho : GE X W o dO) (he : GE X W e dk) (hf : GE X W f dx) (m : M2 X o "get" apos e f cpos := by exact ⟨rfl, rfl, rfl, rfl⟩) :
    GE X W (.Call (.Attribute o "get" apos) [e, f] [] cpos) (dGet2 dO dk dx) := by
  refine PE.imp (pe_dget2 hu ho he hf m) fun σ H Q ⟨B, F, env, ts, vs, R, q⟩ => ?_
  refine ⟨B, F, env, ts, vs, R, (ResP.bind q).mono (fun d e1 q1 v H1 F1 R1 => ?_) fun _ _ _ _ z => z⟩
  by_cases hd : isDk (rs e1 d) = true
  · rw [if_pos hd] at q1
    have hun : rs e1 d ≠ .un := fun z => by rw [z] at hd; cases hd
    obtain ⟨a, hva, hisd⟩ : ∃ a, v = .ref a ∧ IsD H1 a := by
      obtain ⟨S, rx⟩ := R1.last hun
      cases hr : rs e1 d with
      | dct o ks xs =>
        rw [hr] at rx
        obtain ⟨a, us, S', rfl, hl, hrr, hs⟩ := dct_inv rx R1.ex
        exact ⟨a, rfl, .inl ⟨_, hs⟩⟩
      | _ => rw [hr] at hd; cases hd
    refine ⟨a, hva, hisd, B, F1, e1, ts ++ [d], vs ++ [v], R1, (ResP.bind q1).mono (fun y e2 q2 u H2 F2 R2 => ?_) fun _ _ _ _ z => z.pop rfl⟩
    refine ⟨B, F2, e2, _, _, R2, (ResP.bind q2).mono (fun z e3 q3 t H3 F3 R3 => ?_) fun _ _ _ _ z => by rw [List.append_assoc, List.append_assoc]; exact z.pop rfl⟩
    obtain ⟨dr, er, kk⟩ := q3.lift
    unfold get3 at er
    cases hr : rs e3 d with
    | dct o ks xs =>
      rw [hr] at er
      obtain ⟨key, ek, er⟩ := Option.bind_eq_some_iff.mp er
      have R3' : RE X.K X.mg B σ H3 F3 e3 (ts ++ [d, y] ++ [z]) (vs ++ [v, u] ++ [t]) := by
        simp only [List.append_assoc, List.cons_append, List.nil_append] at R3 ⊢; exact R3
      have R3'' : RE X.K X.mg B σ H3 F3 e3 (ts ++ [d] ++ [y]) (vs ++ [v] ++ [u]) := by
        have z := R3.drop (us := [z]) (ws := [t]) rfl
        exact z
      obtain ⟨Sy, ry⟩ := R3''.last (fun c => by rw [c] at ek; cases ek)
      have ey := asKey_rp ry ek
      subst ey
      obtain ⟨Sd, rd⟩ := (R3''.drop (us := [y]) (ws := [kV key]) rfl).last (fun c => by rw [c] at hr; cases hr)
      rw [hr] at rd
      obtain ⟨a', us, S', ea, hl, hrr, hs⟩ := dct_inv rd R3.ex
      rw [hva] at ea
      cases ea
      have Rb := (R3'.drop (us := [z]) (ws := [t]) rfl).drop (us := [d, y]) (ws := [v, kV key]) rfl
      have val := valV_kIx (k := key) (show ks.length = us.length by rw [hl, hrr.len])
      cases hx : kIx ks key with
      | some i =>
        rw [hx] at er val
        obtain ⟨xv, e5, er⟩ := Option.bind_eq_some_iff.mp er
        split at er
        · rename_i hf
          cases er
          obtain ⟨w, v1, v2, T1, T2, T3, rfl, hl1, rfl, q1, q2, q3⟩ := hrr.at e5
          have e0 := q2.froz hf
          subst e0
          refine ⟨some w, .inl ⟨_, key, hs, rfl, ?_⟩, kk _ _ _ (Rb.push0 (Tm.of q2))⟩
          rw [val]
          exact (get_mid hl1).symm
        · cases er
      | none =>
        rw [hx] at er val
        dsimp only at er
        split at er
        · rename_i hf
          cases er
          obtain ⟨Sz, rz⟩ := R3.last (fun c => by rw [c] at hf; cases hf)
          have e0 := rz.froz hf
          subst e0
          exact ⟨none, .inl ⟨_, key, hs, rfl, val.symm⟩, kk _ _ _ (Rb.push0 (Tm.of rz))⟩
        · cases er
    | _ => rw [hr] at er; cases er
  · rw [if_neg hd] at q1; exact q1.elim

/-! ### list(d.items()) -/
def kD : Key → D
  | .inl i => .int i
  | .inr x => .str x
def itemsD (ks : List Key) (xs : List D) : List D := (ks.zip xs).map fun p => .tup [kD p.1, p.2]
def rItemsR : V → Hp → VK → Prop := fun x H Q => ∃ (d : Addr) (kvs : List (Key × V)), x = .ref d ∧ Rd H d (.dK kvs) ∧
  ∀ (H' : Hp) (p : Addr) (ts : List Addr), (∀ b o, H b = some o → H' b = some o) → H p = none → (∀ t ∈ ts, H t = none) → p ∉ ts → H' p = some (.lst (ts.map V.ref)) → Paired (fun (t : Addr) (q : Key × V) => H' t = some (.tup [kV q.1, q.2])) ts kvs → Q (.ref p) H'
theorem pe_listItemsR {X : Cx} {e : Expr} {te : TE} {p apos cpos pos : Pos} (hc : X.calm = true) (he : PE X e te) (hg : Gl X "list") (hm : X.mg "list" = none) (hbase : attributeBase e "items" X.env (eval e X.env) = eval e X.env) (hline : (apos.endLine == cpos.line) = true)
    (hs : starEach [.Call (.Attribute e "items" apos) [] [] cpos] X.env = (false, eval (.Call (.Attribute e "items" apos) [] [] cpos) X.env) :: starEach [] X.env) :
    PE X (.Call (.Name "list" p) [.Call (.Attribute e "items" apos) [] [] cpos] [] pos) (fun σ H Q => te σ H fun x H1 => rItemsR x H1 Q) := by
  refine ⟨fun pins s σ H Q I hq => ?_⟩
  refine wpAny_Call_Name_kw (ld_blt I hg hm (by rfl) ?_)
  refine PyProof.Rows.callWith_type1 ?_ hs rfl
  rw [hs]
  show wpAny _ _ (spliced ((false, eval (.Call (.Attribute e "items" apos) [] [] cpos) X.env) :: backTo pos (starEach [] X.env))) _ _ s
  refine Calls.spliced_cons ?_
  refine wpAny_Call_method (T := "dict") (id := "dict.items") hbase rfl hline F.plainAttrs_dict F.slot_dict_items F.type_dict_items (thn (he.run pins s σ H _ I hq) fun u s1 hh => ?_)
  obtain ⟨x, H1, I1, rx, d, kvs, ex, hd, q⟩ := hh
  subst ex
  obtain rfl : u = Value.ref d := rx
  obtain ⟨hz, hs0, vs, kv, hdo⟩ := dk_rd I1.hok hd
  obtain ⟨ep, hat⟩ := hdo.dictAt
  have lk : kvs.length = vs.length := Paired.length kv
  have I2 : Inv X pins σ H1 { s1 with heap := s1.heap.push { cls := .type "dict_items", data := .fields #[.ref d] } } := I1.kept (t' := s1.toks) fun b ob q => Heap.get?_push_of_some _ q
  refine ⟨hdo.typeIs, hdo.mapOf.noDict, ?_⟩
  show wpAny _ _ (callWith cpos (.builtin "dict.items") [.ref d] [] []) _ X.xe s1
  refine method_meetsIn F.slot_dict_items F.entry_dict_items rfl (PySem.evalArgs_none ⟨rfl, hdo.typeIs, F.args_dict_items_1 _, _, meets_dict_items (mixKind X.prog X.w) d hs0, ⟨vs, hdo⟩, ?_⟩)
  refine Calls.spliced_nil ?_
  refine PySem.W.kdx_call (knd := mixKind X.prog X.w) (kvs := vs) (ep := ep) (I1.ok.hd hc) ⟨_, Heap.get?_push_size _ rfl, rfl, rfl⟩ (hat.push _) (by omega) fun h' tk acc c as hk hS hl hG hacc => ?_
  obtain ⟨H', k1, k2, k3, k4, k5, k6, J⟩ := LiI.items_laid (tk := tk) I2 hz kv hk hS hl hG hacc
  exact ⟨.ref _, H', J, rfl, q H' _ as k1 k2 k3 k4 k5 k6⟩
@[simp] def dItems (a : Dn D) : Dn D := a.bind fun d env => match rs env d with
  | .dct _ ks xs => if frozL xs then .ok (.lst true (itemsD ks xs)) env else .no
  | _ => .no
/-- the heaps grow by new frozen things and one more -/
theorem RE.growN {K : PySem.W.Frag} {mg : Str → Option Value} {B : Bd} {σ : L2.St} {F H H' : Hp} {env ts : List D} {vs : List V} (R : RE K mg B σ H F env ts vs) (k : ∀ b o, H b = some o → H' b = some o) (T : List Addr) (hT : ∀ t ∈ T, H t = none) :
    RE K mg B σ H' (fun a => if a ∈ T then H' a else F a) env ts vs ∧ Ex F (fun a => if a ∈ T then H' a else F a) := by
  obtain ⟨ow, r⟩ := R
  have e1 : Ex F (fun a => if a ∈ T then H' a else F a) := fun a o h => by
    have ha : a ∉ T := fun z => by
      have := r.ex a o h
      rw [hT a z] at this
      cases this
    show (if a ∈ T then H' a else F a) = some o
    rw [if_neg ha]; exact h
  have nT : ∀ a, H a ≠ none → a ∉ T := fun a h z => h (hT a z)
  refine ⟨⟨ow, r.grow e1 (fun o a ha => ?_) (fun o a ha => ?_) (fun a o h => ?_) fun a ha => ?_⟩, e1⟩
  · have z := r.there o a ha
    cases q : H a with
    | none => exact absurd q z
    | some u => exact k a u q
  · show (if a ∈ T then H' a else F a) = none
    rw [if_neg (nT a (r.there o a ha))]; exact r.fno o a ha
  · have h' : (if a ∈ T then H' a else F a) = some o := h
    split at h'
    · exact h'
    · exact k a o (r.ex a o h')
  · obtain ⟨h1, _, h3, _⟩ := r.fr a ha
    rw [← h1] at h3
    refine ⟨?_, if_neg (nT a h3)⟩
    cases q : H a with
    | none => exact absurd q h3
    | some u => exact k a u q
theorem rpL_items {K : PySem.W.Frag} {mg : Str → Option Value} {F F' H' : Hp} (ex : Ex F F') : ∀ {ks : List Key} {xs : List D} {us : List V} {ts : List Addr} {H : Hp}, RpL K mg F H xs us [] → ks.length = xs.length → Paired (fun (t : Addr) (q : Key × V) => F' t = some (.tup [kV q.1, q.2])) ts (ks.zip us) → RpL K mg F' H' (itemsD ks xs) (ts.map V.ref) []
  | [], [], us, ts, H, h, _, p => by
    rw [List.zip_nil_left] at p
    cases p
    exact RpL.nil
  | [], _ :: _, _, _, _, _, h, _ => by cases h
  | _ :: _, [], _, _, _, _, h, _ => by cases h
  | key :: ks, x :: xs, us, ts, H, h, hl, p => by
    unfold RpL at h
    obtain ⟨v, r, S1, S2, rfl, e2, h1, h2⟩ := h
    obtain ⟨rfl, rfl⟩ := List.append_eq_nil_iff.mp e2.symm
    rw [List.zip_cons_cons] at p
    cases p with
    | @cons t _ ts' _ pt pr =>
      have ih := rpL_items (H' := H') ex h2 (by simpa using hl) pr
      show RpL K mg F' H' (.tup [kD key, x] :: itemsD ks xs) (V.ref t :: ts'.map V.ref) []
      refine RpL.cons (S1 := []) (S2 := []) ?_ ih
      unfold Rp
      refine ⟨t, [kV key, v], rfl, RpL.cons (S1 := []) (S2 := []) ?_ (RpL.one (h1.stay ex fun a ha => absurd ha List.not_mem_nil)), Or.inl (Or.inl pt)⟩
      cases key with
      | inl i => exact rp_int
      | inr z => exact rp_str
theorem ge_items {X : Cx} {W : WX} {e : Expr} {p apos cpos pos : Pos} {da : Dn D} (hm : X.mg "list" = none) (hc : X.calm = true) (he : GE X W e da) (hg : Gl X "list" := by rfl) (hbase : attributeBase e "items" X.env (eval e X.env) = eval e X.env := by rfl) (hline : (apos.endLine == cpos.line) = true := by rfl)
    (hs : starEach [.Call (.Attribute e "items" apos) [] [] cpos] X.env = (false, eval (.Call (.Attribute e "items" apos) [] [] cpos) X.env) :: starEach [] X.env := by rfl) :
    GE X W (.Call (.Name "list" p) [.Call (.Attribute e "items" apos) [] [] cpos] [] pos) (dItems da) := by
  refine PE.imp (pe_listItemsR hc he hg hm hbase hline hs) fun σ H Q ⟨B, F, env, ts, vs, R, q⟩ => ?_
  refine ⟨B, F, env, ts, vs, R, (ResP.bind q).mono (fun d e1 q1 v H1 F1 R1 => ?_) fun _ _ _ _ z => z⟩
  cases hr : rs e1 d with
  | dct o ks xs =>
    rw [hr] at q1
    dsimp only at q1
    cases hf : frozL xs with
    | false => rw [hf, if_neg Bool.false_ne_true] at q1; exact q1.elim
    | true =>
      rw [hf, if_pos rfl] at q1
      obtain ⟨S, rd⟩ := R1.last (fun c => by rw [c] at hr; cases hr)
      rw [hr] at rd
      obtain ⟨a, us, S', rfl, hl, hrr, hs⟩ := dct_inv rd R1.ex
      have e0 := hrr.froz hf
      subst e0
      refine ⟨a, _, rfl, hs, fun H' p0 tts k1 k2 k3 k4 k5 k6 => ?_⟩
      have R2 := R1.drop (us := [d]) (ws := [.ref a]) rfl
      -- the tuples frozen
      obtain ⟨R3, ex⟩ := R2.growN (H' := fun b => if b = p0 then none else H' b) (fun b o hb => by
        show (if b = p0 then none else H' b) = some o
        rw [if_neg fun z => by rw [z, k2] at hb; cases hb]
        exact k1 b o hb) tts k3
      have np : ∀ t ∈ tts, t ≠ p0 := fun t ht z => k4 (by rw [← z]; exact ht)
      have pr : Paired (fun (t : Addr) (q : Key × V) => (fun b => if b ∈ tts then (fun b => if b = p0 then none else H' b) b else F1 b) t = some (.tup [kV q.1, q.2])) tts (ks.zip us) := by
        have gen : ∀ {l : List Addr} {m : List (Key × V)}, Paired (fun (t : Addr) (q : Key × V) => H' t = some (.tup [kV q.1, q.2])) l m → (∀ t ∈ l, t ∈ tts) → Paired (fun (t : Addr) (q : Key × V) => (fun b => if b ∈ tts then (fun b => if b = p0 then none else H' b) b else F1 b) t = some (.tup [kV q.1, q.2])) l m := by
          intro l m h
          induction h with
          | nil => intro _; exact .nil
          | cons h1 _ ih =>
            intro hm
            refine .cons ?_ (ih fun t ht => hm t (List.mem_cons_of_mem _ ht))
            have m1 := hm _ List.mem_cons_self
            dsimp only
            rw [if_pos m1, if_neg (np _ m1)]
            exact h1
        exact gen k6 fun t ht => ht
      have rl := rpL_items (mg := X.mg) (H' := fun b => if b = p0 then none else H' b) ex hrr hl pr
      have R4 := RE.newLst0 R3 rl (p := p0) (if_pos rfl)
      have eH : upd (fun b => if b = p0 then none else H' b) p0 (.lst (tts.map V.ref)) = H' := by
        funext b
        by_cases hb : b = p0
        · rw [hb, upd_same, k5]
        · rw [upd_ne hb]; exact if_neg hb
      rw [eH] at R4
      exact q1 _ _ _ R4
  | _ => rw [hr] at q1; exact q1.elim

/-! ### what is walked -/
@[simp] def itAny (a : Dn D) : Dn (List D × List D) := (dU a).bind fun d env => match d with
  | .lst o xs => if frozL (fzL xs) then .ok ([.lst false (fzL xs)], fzL xs) env else .no
  | .scr ns => .ok ([.scr ns], ns.map .int) env
  | .tup xs => if frozL xs then .ok ([.tup xs], xs) env else .no
  | .dct _ ks xs => if frozL (fzL xs) then .ok ([.dct false ks (fzL xs)], ks.map kD) env else .no
  | _ => .no
@[simp] def itItems (a : Dn D) : Dn (List D × List D) := (dU a).bind fun d env => match d with
  | .dct _ ks xs => if frozL (fzL xs) then .ok ([.dct false ks (fzL xs)], itemsD ks (fzL xs)) env else .no
  | _ => .no
def iAny (K : PySem.W.Frag) (tl : TE) : TI := fun σ H R => tl σ H fun x H1 => ∃ a, x = .ref a ∧ (((∃ xs, SqL K H1 a xs) ∧ R (Itl K a) H1) ∨ ((∃ xs, SqT K H1 a xs) ∧ R (Itt K a) H1) ∨ ∃ o kvs, H1 a = some (.frz o (.dK kvs)) ∧ R (Itk a o kvs) H1)
theorem pi_any {X : Cx} {tg l : Expr} {tl : TE} (hl : PE X l tl) : PI X tg l (iAny X.K tl) := by
  refine ⟨fun pins s σ H R I h => ?_⟩
  refine thn (hl.run pins s σ H _ I h) fun v s1 hh => ?_
  obtain ⟨x, H1, I1, r1, a, e, q⟩ := hh
  subst e
  cases r1
  rcases q with ⟨⟨xs, hq⟩, q⟩ | ⟨⟨xs, hq⟩, q⟩ | ⟨o, kvs, hd, q⟩
  · obtain ⟨its, rv, p, hz⟩ := I1.list hq
    refine wpAny_pyIter_list p.isList ?_
    refine ⟨s1.heap.objs.size, [s1.heap.objs.size], _, _, H1, rfl, I1.kept (t' := s1.toks) fun b o e => Heap.get?_push_of_some _ e, turn_list a _, ⟨_, Heap.get?_push_size _ rfl, rfl, rfl⟩, fun b hb => ?_, q⟩
    have e : b = s1.heap.objs.size := by simpa using hb
    subst e
    exact I1.fpOk (Nat.le_refl _) (I1.hok.fresh (Nat.le_refl _))
  · obtain ⟨its, rv, p, hz⟩ := I1.tuple hq
    refine wpAny_pyIter_tuple (show s1.heap.IsTuple a its.toArray from p) ?_
    refine ⟨s1.heap.objs.size, [s1.heap.objs.size], _, _, H1, rfl, I1.kept (t' := s1.toks) fun b o e => Heap.get?_push_of_some _ e, turn_tuple a _, ⟨_, Heap.get?_push_size _ rfl, rfl, rfl⟩, fun b hb => ?_, q⟩
    have e : b = s1.heap.objs.size := by simpa using hb
    subst e
    exact I1.fpOk (Nat.le_refl _) (I1.hok.fresh (Nat.le_refl _))
  · obtain ⟨hs, hgd, hx, es, ep, vs, hdt, hsz, kv, hm⟩ := I1.frzK hd
    refine iter_keys hs hgd hx hdt (pi_one (tk := s1.toks) I1 _ (turn_keys _ hdt) ⟨_, Heap.get?_push_size _ rfl, rfl, ?_⟩ q)
    rw [hsz] <;> rfl
theorem rp_key {K : PySem.W.Frag} {mg : Str → Option Value} {F H : Hp} (k : Key) : Rp K mg F H (kD k) (kV k) [] := by
  cases k with
  | inl i => exact rp_int
  | inr x => exact rp_str
theorem kD_sl (k : Key) : ∀ i, kD k ≠ .sl i := fun i z => by cases k <;> cases z
/-- a frozen dict among the operands -/
theorem dct_at {K : PySem.W.Frag} {mg : Str → Option Value} {B : Bd} {σ : L2.St} {H F : Hp} {env ts ms : List D} {vs ns : List V} {ks : List Key} {xs : List D} {a : Addr} (hf : frozL xs = true) (hm : ms.length = ns.length) (R : RE K mg B σ H F env (ts ++ [.dct false ks xs] ++ ms) (vs ++ [.ref a] ++ ns)) :
    ∃ us od, RpL K mg F H xs us [] ∧ ks.length = xs.length ∧ H a = some (.frz od (.dK (ks.zip us))) := by
  obtain ⟨S, rd⟩ := (R.drop hm).last (d := .dct false ks xs) (fun z => nomatch z)
  have rd' : Rp K mg F H (.dct false ks xs) (.ref a) S := rd
  unfold Rp at rd'
  obtain ⟨a', ws, S', e, hk, rl, ho⟩ := rd'
  cases e
  rw [if_neg Bool.false_ne_true] at ho
  obtain ⟨⟨od, sq⟩, rfl, _⟩ := ho
  exact ⟨ws, od, rl, hk, R.ex _ _ sq⟩
theorem itok_keys {K : PySem.W.Frag} {mg : Str → Option Value} {a : Addr} {ks : List Key} {xs : List D} {o : Obj} {kvs : List (Key × V)} (hkk : kvs.map (·.1) = ks) : ItOKp K mg [(a, .frz o (.dK kvs))] (Itk a o kvs) [.dct false ks xs] [.ref a] (ks.map kD) := by
  intro B σ H F env ts ms vs ns k hk hm R
  have ha2 : H a = some (.frz o (.dK kvs)) := by
    obtain ⟨h1, h2⟩ := hk _ List.mem_cons_self
    obtain ⟨ow, r⟩ := R
    rw [(r.fr a h1).1]; exact h2
  have hlen : kvs.length = ks.length := by rw [← hkk, List.length_map]
  refine ⟨fun x hx => ?_, fun hk => ⟨ha2, by rw [List.length_map] at hk; omega⟩⟩
  rw [List.getElem?_map] at hx
  obtain ⟨key, hkey, rfl⟩ := Option.map_eq_some_iff.mp hx
  have hlt : k < ks.length := (List.getElem?_eq_some_iff.mp hkey).1
  refine ⟨⟨ha2, by omega⟩, fun v H1 ⟨e1, k0, v0, e2, e3⟩ => ?_⟩
  subst e1 e3
  have e4 : k0 = key := by
    rw [← hkk, List.getElem?_map, e2] at hkey
    exact Option.some.inj hkey
  subst e4
  exact ⟨F, R.push0 (Tm.of (rp_key k0))⟩
theorem itok_items {K : PySem.W.Frag} {mg : Str → Option Value} {a : Addr} {ks : List Key} {xs : List D} {o : Obj} {us : List V} (hf : frozL xs = true) (hl : ks.length = us.length) : ItOKp K mg [(a, .frz o (.dK (ks.zip us)))] (Iti a o (ks.zip us)) [.dct false ks xs] [.ref a] (itemsD ks xs) := by
  intro B σ H F env ts ms vs ns k hk hm R
  have ha2 : H a = some (.frz o (.dK (ks.zip us))) := by
    obtain ⟨h1, h2⟩ := hk _ List.mem_cons_self
    obtain ⟨ow, r⟩ := R
    rw [(r.fr a h1).1]; exact h2
  obtain ⟨us', od, rl, hl2, ha⟩ := dct_at hf hm R
  rw [ha2] at ha
  have e0 : ks.zip us = ks.zip us' := by
    injection ha with ha
    injection ha with _ ha
    injection ha
  have e1 : us = us' := by
    have z := congrArg (List.map (·.2)) e0
    rw [List.map_snd_zip (by omega), List.map_snd_zip (by rw [hl2, rl.len]; omega)] at z
    exact z
  subst e1
  have hlx : xs.length = us.length := rl.len
  have hlen : (ks.zip us).length = ks.length := by rw [List.length_zip]; omega
  have hlen2 : (itemsD ks xs).length = ks.length := by unfold itemsD; rw [List.length_map, List.length_zip]; omega
  refine ⟨fun x hx => ?_, fun hk => ⟨ha2, by omega⟩⟩
  unfold itemsD at hx
  rw [List.getElem?_map] at hx
  obtain ⟨⟨key, d⟩, hkd, rfl⟩ := Option.map_eq_some_iff.mp hx
  rw [List.getElem?_zip_eq_some] at hkd
  obtain ⟨hkey, hd⟩ := hkd
  have hlt : k < ks.length := (List.getElem?_eq_some_iff.mp hkey).1
  refine ⟨⟨ha2, by omega⟩, fun v H1 ⟨T, k0, v0, e2, e3, hT, e5⟩ => ?_⟩
  subst e3 e5
  rw [List.getElem?_zip_eq_some] at e2
  obtain ⟨e6, e7⟩ := e2
  rw [hkey] at e6
  cases e6
  obtain ⟨w, ew, rw'⟩ := rl.get hd
  rw [e7] at ew
  cases ew
  obtain ⟨ow, r⟩ := R
  have r2 := r.newF (o := .tup [kV key, v0]) hT
  have ex2 : Ex F (upd F T (.tup [kV key, v0])) := Ex.new (r.ex.none hT)
  refine ⟨_, RE.push0 ⟨ow, r2⟩ (Tm.of ?_)⟩
  show Rp K mg _ _ (.tup [kD key, d]) (.ref T) []
  unfold Rp
  refine ⟨T, [kV key, v0], rfl, RpL.cons (S1 := []) (S2 := []) (rp_key key) (RpL.one (rw'.stay ex2 fun a ha => absurd ha List.not_mem_nil)), Or.inl (Or.inl upd_same)⟩
section
variable {X : Cx} {W : WX} {e : Expr} {dn : Dn D}
theorem gi_any {tg : Expr} (h : GEU X W e (dU dn)) : GI X W tg e (itAny dn) := by
  refine PI.imp (pi_any (PE.ghost h)) fun σ H R ⟨B, F, env, ts, vs, r, q⟩ => ?_
  refine ⟨B, F, env, ts, vs, r, (ResP.bind q).mono (fun d e1 q1 v H1 F1 hd R1 => ?_) fun _ _ _ _ z => z⟩
  cases d with
  | lst o xs =>
    dsimp only at q1
    cases hf : frozL (fzL xs) with
    | false => rw [hf, if_neg Bool.false_ne_true] at q1; exact q1.elim
    | true =>
      rw [hf, if_pos rfl] at q1
      obtain ⟨S, R2⟩ := R1.fzLast hd
      refine ⟨S, fun ods => ?_⟩
      obtain ⟨F2, R2, rp⟩ := R2 ods
      have rp' := rp
      unfold fz Rp at rp'
      obtain ⟨a, ws, S', rfl, rl, ho⟩ := rp'
      rw [if_neg Bool.false_ne_true] at ho
      have fz1 : frozL [D.lst false (fzL xs)] = true := by unfold frozL froz; rw [hf]; rfl
      exact ⟨a, rfl, .inl ⟨⟨ws, Or.inl (Or.inl (R2.ex _ _ ho.1))⟩, q1 _ [.ref a] _ F2 rfl (noAl_froz fz1) (noAl_froz hf) R2 (itok_list (b := true) hf).k⟩⟩
  | scr ns =>
    refine ghost0 (Q := fun H1 => ∃ a, v = V.ref a ∧ (((∃ xs, SqL X.K H1 a xs) ∧ R (Itl X.K a) H1) ∨ ((∃ xs, SqT X.K H1 a xs) ∧ R (Itt X.K a) H1) ∨ ∃ o kvs, H1 a = some (.frz o (.dK kvs)) ∧ R (Itk a o kvs) H1)) ?_
    obtain ⟨S, rp⟩ := R1.last (d := .scr ns) (fun z => nomatch z)
    have rp' : Rp X.K X.mg F1 H1 (.scr ns) v S := rp
    unfold Rp at rp'
    obtain ⟨_, a, rfl, sq⟩ := rp'
    have fz1 : frozL [D.scr ns] = true := rfl
    have fz2 : noAl (ns.map D.int) := fun d hd i z => by
      obtain ⟨n, _, rfl⟩ := List.mem_map.mp hd
      cases z
    exact ⟨a, rfl, .inl ⟨⟨_, R1.ex.sqL sq⟩, q1 _ [.ref a] H1 F1 rfl (noAl_froz fz1) fz2 R1 itok_scr.k⟩⟩
  | tup xs =>
    refine ghost0 (Q := fun H1 => ∃ a, v = V.ref a ∧ (((∃ xs, SqL X.K H1 a xs) ∧ R (Itl X.K a) H1) ∨ ((∃ xs, SqT X.K H1 a xs) ∧ R (Itt X.K a) H1) ∨ ∃ o kvs, H1 a = some (.frz o (.dK kvs)) ∧ R (Itk a o kvs) H1)) ?_
    dsimp only at q1
    cases hf : frozL xs with
    | false => rw [hf, if_neg Bool.false_ne_true] at q1; exact q1.elim
    | true =>
      rw [hf, if_pos rfl] at q1
      obtain ⟨S, rp⟩ := R1.last (d := .tup xs) (fun z => nomatch z)
      have rp' : Rp X.K X.mg F1 H1 (.tup xs) v S := rp
      unfold Rp at rp'
      obtain ⟨a, ws, rfl, rl, sq⟩ := rp'
      have fz1 : frozL [D.tup xs] = true := by unfold frozL froz; rw [hf]; rfl
      exact ⟨a, rfl, .inr (.inl ⟨⟨ws, R1.ex.sqT sq⟩, q1 _ [.ref a] H1 F1 rfl (noAl_froz fz1) (noAl_froz hf) R1 (itok_tup hf).k⟩)⟩
  | dct o ks xs =>
    dsimp only at q1
    cases hf : frozL (fzL xs) with
    | false => rw [hf, if_neg Bool.false_ne_true] at q1; exact q1.elim
    | true =>
      rw [hf, if_pos rfl] at q1
      obtain ⟨S, R2⟩ := R1.fzLast hd
      refine ⟨S, fun ods => ?_⟩
      obtain ⟨F2, R2, rp⟩ := R2 ods
      have rp' := rp
      unfold fz Rp at rp'
      obtain ⟨a, ws, S', rfl, hk, rl, ho⟩ := rp'
      rw [if_neg Bool.false_ne_true] at ho
      obtain ⟨⟨od, ho⟩, _, _⟩ := ho
      have fz1 : frozL [D.dct false ks (fzL xs)] = true := by unfold frozL froz; rw [hf]; rfl
      have fz2 : noAl (ks.map kD) := fun d hd i z => by
        obtain ⟨n, _, rfl⟩ := List.mem_map.mp hd
        exact kD_sl n i z
      refine ⟨a, rfl, .inr (.inr ⟨od, _, R2.ex _ _ ho, q1 _ [.ref a] _ F2 rfl (noAl_froz fz1) fz2 R2 ⟨_, fun p hp => ?_, itok_keys (zip_fst (by rw [hk, rl.len]))⟩⟩)⟩
      rcases List.mem_cons.mp hp with z | z
      · rw [z]; exact ⟨R2.ex _ _ ho, ho⟩
      · exact absurd z List.not_mem_nil
  | _ => exact q1.elim
theorem frozL_items {ks : List Key} {xs : List D} (hf : frozL xs = true) : frozL (itemsD ks xs) = true := by
  unfold itemsD
  induction ks generalizing xs with
  | nil => rfl
  | cons k ks ih =>
    cases xs with
    | nil => rfl
    | cons x xs =>
      unfold frozL at hf
      rw [Bool.and_eq_true] at hf
      rw [List.zip_cons_cons, List.map_cons]
      unfold frozL
      rw [ih hf.2]
      have : froz (D.tup [kD k, x]) = true := by
        unfold froz frozL frozL frozL
        rw [hf.1]
        cases k <;> rfl
      rw [this]; rfl
theorem gi_items {elts : List Expr} {kk : Nat} {tpos apos cpos : Pos} (h : GEU X W e (dU dn)) (hbase : attributeBase e "items" X.env (eval e X.env) = eval e X.env := by rfl) (hline : (apos.endLine == cpos.line) = true := by rfl) :
    GI X W (.Tuple elts kk tpos) (.Call (.Attribute e "items" apos) [] [] cpos) (itItems dn) := by
  refine PI.imp (pi_items (PE.ghost h) hbase hline) fun σ H R ⟨B, F, env, ts, vs, r, q⟩ => ?_
  refine ⟨B, F, env, ts, vs, r, (ResP.bind q).mono (fun d e1 q1 v H1 F1 hd R1 => ?_) fun _ _ _ _ z => z⟩
  cases d with
  | dct o ks xs =>
    dsimp only at q1
    cases hf : frozL (fzL xs) with
    | false => rw [hf, if_neg Bool.false_ne_true] at q1; exact q1.elim
    | true =>
      rw [hf, if_pos rfl] at q1
      obtain ⟨S, R2⟩ := R1.fzLast hd
      refine ⟨S, fun ods => ?_⟩
      obtain ⟨F2, R2, rp⟩ := R2 ods
      have rp' := rp
      unfold fz Rp at rp'
      obtain ⟨a, ws, S', rfl, hk, rl, ho⟩ := rp'
      rw [if_neg Bool.false_ne_true] at ho
      obtain ⟨⟨od, ho⟩, _, _⟩ := ho
      have fz1 : frozL [D.dct false ks (fzL xs)] = true := by unfold frozL froz; rw [hf]; rfl
      refine ⟨a, od, _, rfl, R2.ex _ _ ho, q1 _ [.ref a] _ F2 rfl (noAl_froz fz1) (noAl_froz (frozL_items hf)) R2 ⟨_, fun p hp => ?_, itok_items hf (by rw [hk, rl.len])⟩⟩
      rcases List.mem_cons.mp hp with z | z
      · rw [z]; exact ⟨R2.ex _ _ ho, ho⟩
      · exact absurd z List.not_mem_nil
  | _ => exact q1.elim
end
end DL
set_option Elab.async false
set_option linter.all false
set_option maxRecDepth 100000
set_option maxHeartbeats 4000000
/-! DMc: isinstance by several types, of instances; len(set(..)); == and != of instances; slices; d[k] as a target. -/
namespace DL
open PySem L2
open PyProof.Rows (AllBare)

/-! ### isinstance(x, (T, ..)) -/
@[simp] def fIsiT (Ts : List String) (d : D) : Option D := (tyD d).bind fun t => if t ∈ ["NoneType", "bool", "int", "str", "list", "tuple", "dict"] then some (.bl (Ts.contains t || (Ts.contains "int" && t == "bool"))) else none
theorem kitAny_ty {K : PySem.W.Frag} {t : String} (ht : t ∈ ["NoneType", "bool", "int", "str", "list", "tuple", "dict"]) : ∀ {Ts : List String}, (∀ T ∈ Ts, T ∈ ["bool", "int", "str", "list", "tuple", "dict"]) → PySem.W.kitAny K (.type t) (Ts.map Value.type) = some (Ts.contains t || (Ts.contains "int" && t == "bool"))
  | [], _ => by unfold PySem.W.kitAny; rfl
  | T :: Ts, hT => by
    have m := hT T List.mem_cons_self
    have hk : kitT t T = some (decide (t = T) || decide (t = "bool" ∧ T = "int")) := by
      have all : (["NoneType", "bool", "int", "str", "list", "tuple", "dict"].all fun t => ["bool", "int", "str", "list", "tuple", "dict"].all fun T => decide (kitT t T = some (decide (t = T) || decide (t = "bool" ∧ T = "int")))) = true := by decide +kernel
      exact of_decide_eq_true (List.all_eq_true.mp (List.all_eq_true.mp all t ht) T m)
    have h1 := kit_ty (K := K) (kitT_ok hk)
    rw [List.map_cons]
    unfold PySem.W.kitAny
    rw [h1]
    have ih := kitAny_ty (K := K) ht (Ts := Ts) fun T hm => hT T (List.mem_cons_of_mem _ hm)
    have e1 : (T :: Ts).contains t = (decide (t = T) || Ts.contains t) := by rw [List.contains_cons]; congr 1
    have e2 : (T :: Ts).contains "int" = (decide ("int" = T) || Ts.contains "int") := by rw [List.contains_cons]; congr 1
    rw [e1, e2]
    by_cases h1 : t = T
    · simp [h1]
    · by_cases h2 : t = "bool" ∧ T = "int"
      · obtain ⟨rfl, rfl⟩ := h2
        simp
      · have e3 : (decide (t = T) || decide (t = "bool" ∧ T = "int")) = false := by simp [h1]; intro a b; exact h2 ⟨a, b⟩
        rw [e3]
        show PySem.W.kitAny K (.type t) (Ts.map Value.type) = _
        rw [ih]
        have e4 : ("int" = T) → (t == "bool") = false := fun a => by
          cases hb : t == "bool" with
          | false => rfl
          | true => exact absurd ⟨eq_of_beq hb, a.symm⟩ h2
        by_cases h3 : "int" = T
        · rw [e4 h3, decide_eq_false h1]
          simp
        · rw [decide_eq_false h1, decide_eq_false h3]
          simp
section
variable {X : Cx} {W : WX} {e : Expr} {da : Dn D} {p p2 p3 p4 pos : Pos}
theorem ge_isi2 {y1 y2 : Str} {T1 T2 : String} {tk : Nat} (he : GE X W e da) (hm : X.mg "isinstance" = none) (h1 : X.mg y1 = none) (h2 : X.mg y2 = none) (hv1 : bootBuiltins y1 = some (.type T1) := by rfl) (hv2 : bootBuiltins y2 = some (.type T2) := by rfl) (hT1 : T1 ∈ ["bool", "int", "str", "list", "tuple", "dict"] := by decide) (hT2 : T2 ∈ ["bool", "int", "str", "list", "tuple", "dict"] := by decide)
    (hg : Gl X "isinstance" := by rfl) (hg1 : Gl X y1 := by rfl) (hg2 : Gl X y2 := by rfl) (hn1 : y1 ≠ "__name__" := by decide) (hd1 : (y1 == ("__debug__" : Str)) = false := by decide) (hn2 : y2 ≠ "__name__" := by decide) (hd2 : (y2 == ("__debug__" : Str)) = false := by decide)
    (hs : starEach [e, .Tuple [.Name y1 p2, .Name y2 p3] tk p4] X.env = (false, eval e X.env) :: starEach [.Tuple [.Name y1 p2, .Name y2 p3] tk p4] X.env := by rfl) (hs2 : starEach [.Tuple [.Name y1 p2, .Name y2 p3] tk p4] X.env = (false, eval (.Tuple [.Name y1 p2, .Name y2 p3] tk p4) X.env) :: starEach [] X.env := by rfl)
    (hs3 : starEach [.Name y1 p2, .Name y2 p3] X.env = (false, eval (.Name y1 p2) X.env) :: starEach [.Name y2 p3] X.env := by rfl) (hs4 : starEach [.Name y2 p3] X.env = (false, eval (.Name y2 p3) X.env) :: starEach [] X.env := by rfl) (hpl : (backTo pos (starEach [.Tuple [.Name y1 p2, .Name y2 p3] tk p4] X.env)).any (·.1) = false := by rfl) :
    GE X W (.Call (.Name "isinstance" p) [e, .Tuple [.Name y1 p2, .Name y2 p3] tk p4] [] pos) (dUn (fIsiT [T1, T2]) da) := by
  refine PE.imp (pe_callB call_isiT hg hm (by rfl) (pa_cons he (pa_cons (pe_tup (pa_cons (pe_bltn (v := .ty T1) hg1 h1 hv1 rfl hn1 hd1) (pa_cons (pe_bltn (v := .ty T2) hg2 h2 hv2 rfl hn2 hd2) pa_nil hs4) hs3)) pa_nil hs2) hs) (by decide) (by decide) hs hpl) fun σ H Q ⟨B, F, env, ts, vs, R, q⟩ => ?_
  refine ⟨B, F, env, ts, vs, R, (ResP.bind q).mono (fun x e1 q1 v H1 F1 R1 => ?_) fun _ _ _ _ z => z⟩
  obtain ⟨d, ed, k⟩ := q1.lift
  unfold fIsiT at ed
  obtain ⟨t, et, ed⟩ := Option.bind_eq_some_iff.mp ed
  split at ed
  · rename_i ht
    cases ed
    obtain ⟨S, rx⟩ := R1.last (fun z => by rw [z] at et; cases et)
    have ty := tyD_ok rx R1.ex et
    refine ⟨(show 2 ≤ sizeLine by decide), fun tp htp => ⟨v, tp, [.ty T1, .ty T2], .type t, [.type T1, .type T2], _, rfl, upd_same, .cons (.ty T1) (.cons (.ty T2) .nil), ?_, kitAny_ty (K := X.K) (Ts := [T1, T2]) ht (fun T hT => ?_), ?_⟩⟩
    · have R2 : RE X.K X.mg _ σ (upd H1 tp (.tup [.ty T1, .ty T2])) F1 e1 (ts ++ [x]) (vs ++ [v]) := let ⟨ow, r⟩ := R1; ⟨ow, r.newH htp⟩
      obtain ⟨S, rx⟩ := R2.last (fun z => by rw [z] at et; cases et)
      exact tyD_ok rx R2.ex et
    · rcases List.mem_cons.mp hT with z | z
      · rw [z]; exact hT1
      · rcases List.mem_cons.mp z with z | z
        · rw [z]; exact hT2
        · exact absurd z List.not_mem_nil
    · have R2 : RE X.K X.mg _ σ (upd H1 tp (.tup [.ty T1, .ty T2])) F1 e1 (ts ++ [x]) (vs ++ [v]) := let ⟨ow, r⟩ := R1; ⟨ow, r.newH htp⟩
      exact k _ _ _ ((R2.drop rfl).push0 (Tm.of rp_bl))
  · cases ed
end

/-! ### len(set(xs)) -/
def dedupI (ns : List Int) : List Int := ns.foldl PyProof.Rows.step_dedup []
theorem firstMet_dedup (ns : List Int) : PyProof.Rows.firstMet (fun i => ns.getD i 0) ns.length = dedupI ns := by
  unfold PyProof.Rows.firstMet dedupI
  congr 1
  apply List.ext_getElem?
  intro i
  rw [List.getElem?_map]
  by_cases h : i < ns.length
  · rw [List.getElem?_range h, Option.map_some, List.getD_eq_getElem?_getD, List.getElem?_eq_getElem h]; rfl
  · rw [List.getElem?_eq_none (by simpa using h), List.getElem?_eq_none (by simpa using h)]; rfl
def fLenSet (d : D) : Option D := match d with
  | .lst _ xs => (asInts xs).bind fun ns => if ns.length ≤ 4000 then some (.int (dedupI ns).length) else none
  | _ => none
theorem pe_lenSetA {X : Cx} {a : Expr} {ta : TE} {p p2 q pos : Pos} (hg : Gl X "len") (hm : X.mg "len" = none) (hg2 : Gl X "set") (hm2 : X.mg "set" = none) (ha : PE X a ta) (hc : X.calm = true)
    (na : starEach [a] X.env = (false, eval a X.env) :: starEach [] X.env) : PE X (.Call (.Name "len" p) [.Call (.Name "set" p2) [a] [] q] [] pos) (fun σ H Q => ta σ H fun x H1 => ∃ (l : Addr) (ns : List Int), x = .ref l ∧ SqL X.K H1 l (ns.map V.int) ∧ ns.length ≤ 4000 ∧ Q (.int ((dedupI ns).length : Nat)) H1) := by
  refine ⟨fun pins s σ H Q I h => ?_⟩
  refine PyProof.Rows.Call_ (ld_blt I hg hm boot_len ?_)
  refine PyProof.Rows.callWith_builtin1 (PyProof.Rows.args_cons ?_ rfl) rfl rfl
  refine PyProof.Rows.Call_ (ld_blt I hg2 hm2 PyProof.Rows.boot_set ?_)
  refine PyProof.Rows.callWith_type1 (PyProof.Rows.args_cons (thn (ha.run pins s σ H _ I h) fun v s1 hh => PyProof.Rows.args_nil ?_) na) na rfl
  obtain ⟨x, H1, I1, r1, l, ns, rfl, hq, hl, q1⟩ := hh
  cases r1
  obtain ⟨its, r, pl, hz⟩ := I1.list hq
  have hlen : its.toArray.size = ns.length := by rw [List.size_toArray, ← r.length, List.length_map]
  refine call_set_list (I1.ok.hd hc) pl.isList (ns := ns) (by simpa using r.ints) (by rw [hlen]; unfold scanBound; omega) fun h' tk hS hk => ?_
  refine PyProof.Rows.args_nil ?_
  rw [hlen, firstMet_dedup] at hS
  obtain ⟨o, es, ep, t, ho, hex, hd, _, _, _, hf, hn⟩ := hS
  have I2 : Inv X pins σ H1 { s1 with heap := h', toks := tk } := I1.kept fun b o e => hk b o (Heap.lt_size e) e
  have hle : (dedupI ns).length ≤ ns.length := by
    rw [← firstMet_dedup]; exact PyProof.Rows.firstMet_length_le _ _
  exact call_len_set ho hex hd hf (by rw [hn] <;> omega) ⟨.int (dedupI ns).length, H1, I2.tok _, ⟨_, by rw [hn]⟩, q1⟩
theorem ge_lenSet {X : Cx} {W : WX} {a : Expr} {da : Dn D} {p p2 q pos : Pos} (hm : X.mg "len" = none) (hm2 : X.mg "set" = none) (hc : X.calm = true) (ha : GE X W a da) (hg : Gl X "len" := by rfl) (hg2 : Gl X "set" := by rfl) (na : starEach [a] X.env = (false, eval a X.env) :: starEach [] X.env := by rfl) :
    GE X W (.Call (.Name "len" p) [.Call (.Name "set" p2) [a] [] q] [] pos) (dUn fLenSet da) := by
  refine PE.imp (pe_lenSetA hg hm hg2 hm2 ha hc na) fun σ H Q ⟨B, F, env, ts, vs, R, q⟩ => ?_
  refine ⟨B, F, env, ts, vs, R, (ResP.bind q).mono (fun x e1 q1 v H1 F1 R1 => ?_) fun _ _ _ _ z => z⟩
  obtain ⟨d, ed, k⟩ := q1.lift
  unfold fLenSet at ed
  split at ed
  · rename_i o xs er
    obtain ⟨ns, en, ed⟩ := Option.bind_eq_some_iff.mp ed
    split at ed
    · rename_i hz
      cases ed
      obtain ⟨S, rx⟩ := R1.last (fun z => by rw [z] at er; cases er)
      rw [er, asInts_inv en] at rx
      obtain ⟨a, us, S', rfl, hl, hs⟩ := lst_inv rx R1.ex
      rw [hl.ofInts] at hs
      exact ⟨a, ns, rfl, Or.inl (Or.inl hs), hz, k _ _ _ ((R1.drop rfl).push0 (Tm.of rp_int))⟩
    · cases ed
  · cases ed

/-! ### slices of lists -/
def cutD (xs : List D) (lo hi : Option Int) : List D := (xs.drop (HT.sIx xs.length 0 lo)).take (HT.sIx xs.length xs.length hi - HT.sIx xs.length 0 lo)
def fSlU : D → D → Option D
  | .lst _ xs, .int j => if frozL xs then some (.lst true (cutD xs none (some j))) else none
  | _, _ => none
def fSlL : D → D → Option D
  | .lst _ xs, .int j => if frozL xs then some (.lst true (cutD xs (some j) none)) else none
  | _, _ => none
theorem RpL.cut {K : PySem.W.Frag} {mg : Str → Option Value} {F H : Hp} {xs : List D} {us : List V} {i j : Option Int} (h : RpL K mg F H xs us []) : RpL K mg F H (cutD xs i j) (cutV us i j) [] := by
  have hl := h.len
  have dr : ∀ {xs : List D} {us : List V} (n : Nat), RpL K mg F H xs us [] → RpL K mg F H (xs.drop n) (us.drop n) [] := by
    intro xs us n
    induction n generalizing xs us with
    | zero => intro h; rw [List.drop_zero, List.drop_zero]; exact h
    | succ n ih =>
      intro h
      cases xs with
      | nil => unfold RpL at h; rw [h.1]; exact RpL.nil
      | cons x xs =>
        unfold RpL at h
        obtain ⟨v, r, S1, S2, rfl, e2, h1, h2⟩ := h
        obtain ⟨rfl, rfl⟩ := List.append_eq_nil_iff.mp e2.symm
        rw [List.drop_succ_cons, List.drop_succ_cons]
        exact ih h2
  have tk : ∀ {xs : List D} {us : List V} (n : Nat), RpL K mg F H xs us [] → RpL K mg F H (xs.take n) (us.take n) [] := by
    intro xs us n
    induction n generalizing xs us with
    | zero => intro h; rw [List.take_zero, List.take_zero]; exact RpL.nil
    | succ n ih =>
      intro h
      cases xs with
      | nil => unfold RpL at h; rw [h.1]; exact RpL.nil
      | cons x xs =>
        unfold RpL at h
        obtain ⟨v, r, S1, S2, rfl, e2, h1, h2⟩ := h
        obtain ⟨rfl, rfl⟩ := List.append_eq_nil_iff.mp e2.symm
        rw [List.take_succ_cons, List.take_succ_cons]
        exact RpL.cons (S1 := []) (S2 := []) h1 (ih h2)
  unfold cutD cutV
  rw [hl]
  exact tk _ (dr _ h)
section
variable {X : Cx} {W : WX} {e l h : Expr} {pos p2 : Pos} {da dl dh : Dn D}
theorem os_slU {K : PySem.W.Frag} {mg : Str → Option Value} : OpS K mg (fun x y H Q => ∃ j, y = .int j ∧ rSlL K x none (some j) H Q) fSlU := by
  intro B σ H F env ts vs dx dy vx vy Sx Sy d Q R h1 h2 e k
  unfold fSlU at e
  split at e
  · split at e
    · rename_i hf
      cases e
      unfold Rp at h2
      obtain ⟨a, us, rfl, hl, hs⟩ := lst_inv0 h1 R.ex hf
      exact ⟨_, h2.1, a, us, rfl, Or.inl (Or.inl hs), fun p hp => k _ _ _ (R.newLst0 hl.cut hp)⟩
    · cases e
  · cases e
theorem os_slL {K : PySem.W.Frag} {mg : Str → Option Value} : OpS K mg (fun x y H Q => ∃ j, y = .int j ∧ rSlL K x (some j) none H Q) fSlL := by
  intro B σ H F env ts vs dx dy vx vy Sx Sy d Q R h1 h2 e k
  unfold fSlL at e
  split at e
  · split at e
    · rename_i hf
      cases e
      unfold Rp at h2
      obtain ⟨a, us, rfl, hl, hs⟩ := lst_inv0 h1 R.ex hf
      exact ⟨_, h2.1, a, us, rfl, Or.inl (Or.inl hs), fun p hp => k _ _ _ (R.newLst0 hl.cut hp)⟩
    · cases e
  · cases e
theorem ge_slU (ha : GE X W e da) (hh : GE X W h dh) : GE X W (.Subscript e (.Slice none (some h) none p2) pos) (dOp fSlU da dh) :=
  PE.imp (pe_slice sl_list ha po_none (po_some hh)) fun σ H Q q => op_imp (t := fun _ _ _ => True) os_slU (fun y => rfl) (fun x => by cases x <;> rfl) q
theorem ge_slL (ha : GE X W e da) (hl : GE X W l dl) : GE X W (.Subscript e (.Slice (some l) none none p2) pos) (dOp fSlL da dl) :=
  PE.imp (pe_slice sl_list ha (po_some hl) po_none) fun σ H Q q => op_imp (t := fun _ _ _ => True) os_slL (fun y => rfl) (fun x => by cases x <;> rfl) q
end

/-! ### d[k] as a target -/
def tgSubD (o k : Dn D) : D → List D → Option (List D) := fun u env => match o env with
  | .ok (.sl i) e1 => (match k e1 with
    | .ok y e2 => ((asKey (rs e2 y)).bind fun k => putD (e2.getD i .un) k u).map fun d => e2.set i d
    | _ => none)
  | _ => none
theorem gg_subD {X : Cx} {P : List Nat} {o i : Expr} {do' dk : Dn D} {pos' : Pos} (hu : X.A.units + 1 < cLine) (ho : GE X WF o do') (hi : GE X WF i dk)
    (has : ∀ v, assign (.Subscript o i pos') X.env v = (do
      let ov ← holding [v] (eval o X.env)
      let iv ← holding [v, ov] (eval i X.env)
      standAt pos'
      holding [v, ov, iv] (setItem ov iv v)
      release [v, ov, iv] []) := by intro _; rfl) : GG X P [] (.Subscript o i pos') (tgSubD do' dk) :=
  PG.imp (pg_sub ho hi (set_dict hu) has) fun v σ H Q ⟨B, F, env, ts, vs, d, e1, hpp, na, R, hd, eg, q⟩ => by
    unfold tgSubD at eg
    cases h1 : do' env with
    | no => rw [h1] at eg; cases eg
    | er _ _ _ _ => rw [h1] at eg; cases eg
    | ok x e2 =>
      rw [h1] at eg
      cases x with
      | sl j =>
        dsimp only at eg
        cases h2 : dk e2 with
        | no => rw [h2] at eg; cases eg
        | er _ _ _ _ => rw [h2] at eg; cases eg
        | ok y e3 =>
          rw [h2] at eg
          obtain ⟨d', hd', rfl⟩ := Option.map_eq_some_iff.mp eg
          obtain ⟨k, ek, ed⟩ := Option.bind_eq_some_iff.mp hd'
          refine ⟨B, F, env, ts ++ [d], vs ++ [v], R, ?_⟩
          rw [h1]
          intro w H2 F2 R2
          refine ⟨B, F2, e2, _, _, R2, ?_⟩
          rw [h2]
          intro z H3 F3 R3
          obtain ⟨S, ry⟩ := R3.last (fun c => by rw [c] at ek; cases ek)
          have ey := asKey_rp ry ek
          subst ey
          obtain ⟨hj, R5⟩ := RE.alias (us := []) (ws := []) (R3.drop rfl) rfl
          rw [List.append_nil, List.append_nil] at R5
          obtain ⟨a, H', rfl, hput, R6⟩ := R5.putD hd hj ed
          exact ⟨a, H', rfl, hput, q σ H' F3 ⟨rfl, fun _ _ => rfl⟩ R6⟩
      | _ => cases eg
end DL
set_option Elab.async false
set_option linter.all false
set_option maxRecDepth 100000
set_option maxHeartbeats 400000
/-! DMd: == and != of instances by their own __eq__; isinstance of instances. -/
namespace DL
open PySem L2
open PyProof.Rows (AllBare)

section
open PySem.W
variable {prog : Program} {w : World} {A : Around} {E : Value → Shared → Prop} {s : Shared} {K : PySem.W.Frag} {x C L f : Addr} {h₀ : Heap} {m : Str → Option Value} {ox : Obj} {od : Option Obj} {b tb : Value}
theorem ifBound_B {M : Model} {A : Around} {name : Str} {id : String} {args : List Value} {Q : Option Value → Shared → Prop} (X : K.In s.heap) (I : InstAt s.heap x ox C od) (hs : findIn K (.ref C) name = some (some (.builtin id))) {B : String} (S : Slot B name id)
    (h : wpAny M A (call (.builtin id) (.ref x :: args)) (fun v => Q (some v)) E s) : wpAny M A (callSpecialIfBound? (.ref x) name args) Q E s := by
  simp only [callSpecialIfBound?, bindSpecialIfBound?]
  refine wpAny_holding (wpAny_bind (wpAny_bind (wpAny_bind (I.type.here ((looks_findIn X hs).here ?_)))))
  simp only [S.bind]
  refine wpAny_bind (wpAny_askSetting (wpAny_ite ?_))
  have fin : wpAny M A (call (.builtin id) ([.ref x] ++ args) >>= fun v => pure (some v)) Q E s := wpAny_bind (wpAny_mono h (fun v s' h' => wpAny_pure h') fun _ _ h' => h')
  split
  · exact wpAny_bind (wpAny_pure (wpAny_pure fin))
  · exact wpAny_tryCatch (wpAny_bind (wpAny_pure (wpAny_pure fin)))
theorem objNe_K {A : Around} {Q : PySem.Fin → Shared → Prop} (hu : A.units < cLine) (X : K.In s.heap) (I : InstAt s.heap x ox C od) (heq : findIn K (.ref C) "__eq__" = some (some (.ref f))) (hf : isFn K (.ref f) = true)
    (h : wpAny (model prog w) A (call (.ref f) [.ref x, b]) (fun v s' => ∃ k, v = .bool k ∧ Q (.done (.ret (.bool (!k)))) s') E s) : wpAny (model prog w) A (Builtin.«object.__ne__» ⟨[.ref x, b], []⟩) Q E s := by
  unfold Builtin.«object.__ne__»
  repeat (first
    | with_reducible refine wpAny_cRoomFor hu ?_
    | (refine wpAny_bind (m := callSpecialIfBound? (.ref x) (Str.ofString "__eq__") [b])
        (ifBound_K X I heq hf (wpAny_mono h (fun r s' hr => by
          obtain ⟨k, rfl, hq⟩ := hr
          repeat (first | exact hq | exact wpAny_pure hq | exact wpAny_truthy_bool hq | (refine wpAny_bind (m := truthy (.bool _)) (wpAny_truthy_bool ?_)) | wp_step)) fun _ _ e => e)))
    | wp_step)
theorem ne_K {Q : Value → Shared → Prop} (hu : A.units + 1 < cLine) (X : K.In s.heap) (I : InstAt s.heap x ox C od) (hb : Looks (model prog w) s.heap (typeOf b) tb) (hn : notFirst K C tb = true)
    (hne : findIn K (.ref C) "__ne__" = some (some (.builtin "object.__ne__"))) (heq : findIn K (.ref C) "__eq__" = some (some (.ref f))) (hf : isFn K (.ref f) = true) (hm : mroIn K C (.type "object") = some true)
    (h : wpAny (model prog w) A.in1 (call (.ref f) [.ref x, b]) (fun v s' => ∃ k, v = .bool k ∧ Q (.bool (!k)) s') E s) : wpAny (model prog w) A (richCompare .NotEq (.ref x) b) Q E s := by
  have sub : Looks (model prog w) s.heap (isInstance (.ref x) (.type "object")) true := I.type.andThen (looks_mroIn X hm)
  have one : wpAny (model prog w) A (tryCompare (.ref x) "__ne__" b) (fun r s' => ∃ v, r = some v ∧ Q v s') E s := by
    unfold tryCompare
    refine wpAny_bind (ifBound_B X I hne F.cmp_object.ne (wpAny_call (codeAny_call_builtin F.cmp_object.ne.plain F.cmpEntry_ne (check_slot F.cmpKind_ne F.cmpSplit_ne sub (F.cmpArgs_ne _ _) (objNe_K (A := A.in1) hu X I heq hf (wpAny_mono h (fun v s' hv => ?_) fun _ _ e => e))))))
    obtain ⟨k, rfl, hq⟩ := hv
    first | exact ⟨k, rfl, wpAny_pure ⟨_, rfl, hq⟩⟩ | exact ⟨k, rfl, ⟨_, rfl, hq⟩⟩
  unfold richCompare
  simp only [oneThing_ref]
  refine wpAny_holding (wpAny_bind (wpAny_cRoomFor (Nat.lt_of_succ_lt hu) ?_))
  refine wpAny_bind (I.type.here (wpAny_bind (hb.here ?_)))
  split
  · rename_i q
    have e : subIn K tb (.ref C) = some false := by
      rcases Bool.or_eq_true_iff.mp hn with e | e
      · rw [beq_iff_eq.mp e] at q; simp at q
      · exact beq_iff_eq.mp e
    refine wpAny_bind ((looks_subIn X e).here ?_)
    simp only [Bool.false_eq_true, if_false]
    refine wpAny_bind (wpAny_mono one (fun r s' z => ?_) fun _ _ e => e)
    obtain ⟨v, rfl, hq⟩ := z
    exact wpAny_pure hq
  · refine wpAny_bind (wpAny_pure ?_)
    simp only [Bool.false_eq_true, if_false]
    refine wpAny_bind (wpAny_mono one (fun r s' z => ?_) fun _ _ e => e)
    obtain ⟨v, rfl, hq⟩ := z
    exact wpAny_pure hq
end


/-! ### != of tuples, an instance first, a number behind it -/
section
open PySem.SeqAt
open AutoSeq1 (wpAny_loadPart')
open MeetsSeq MeetsSeq2 MeetsSeq3 SeqRoads2
variable {prog : Program} {w : World} {A : Around} {R : Result → Shared → Prop} {E : Value → Shared → Prop}
theorem tuple_neG (l b : Addr) (items items2 : Array Value) (n n2 : Nat) (dd dd2 : Option Addr) (sl sl2 : Array (Option Value)) (hsz : items.size = items2.size) (I : Nat → Shared → Prop)
    (turn : ∀ i (h1 : i < items.size) (h2 : i < items2.size) s, I i s → wpAny (model prog w) A.in1 (eqBool items[i] items2[i]) (fun r s' => r = true ∧ I (i + 1) s') (fun e s' => R (.error e) s') s)
    (fin : ∀ s, I items.size s → R (.ok (.ret (.bool false))) s) {s : Shared} (hl1 : s.heap.get? l = some { cls := .type "tuple", dict := dd, data := .seq items n, slots := sl }) (hb1 : s.heap.get? b = some { cls := .type "tuple", dict := dd2, data := .seq items2 n2, slots := sl2 }) (h : I 0 s) :
    wpAny (model prog w) A.in1 (Builtin.«tuple.__ne__» ⟨[.ref l, .ref b], []⟩) (GQ.FinOf prog w A R) (fun e s' => R (.error e) s') s := by
  have f2 := AutoSeq1.sub_tuple_tuple
  have hZ : (items.toList.zip items2.toList).length = items.size := by simp [hsz]
  have h0 := h
  obtain ⟨hp, g, d, tk, os⟩ := s
  wp_walk using wpAny_loadPart' hl1, wpAny_loadPart' hb1, wpAny_forIn_list _ (fun rest b s' => b.1 = none ∧ ∃ i, rest = (items.toList.zip items2.toList).drop i ∧ i ≤ items.size ∧ I i s') _
  case turn =>
    rintro ⟨y, x⟩ rest b s' ⟨hb', i, hz, hi, hI⟩
    have hlt : i < (items.toList.zip items2.toList).length := by
      rcases Nat.lt_or_ge i (items.toList.zip items2.toList).length with h' | h'
      · exact h'
      · rw [List.drop_of_length_le h'] at hz; cases hz
    have h1 : i < items.size := hZ ▸ hlt
    have h2 : i < items2.size := hsz ▸ h1
    rw [List.drop_eq_getElem_cons hlt] at hz
    injection hz with hyx hrest
    have hy : y = items[i] := by have := congrArg Prod.fst hyx; simpa using this
    have hx : x = items2[i] := by have := congrArg Prod.snd hyx; simpa using this
    subst hy hx
    refine wpAny_bind (wpAny_mono (turn i h1 h2 s' hI) (fun r s2 q2 => ?_) fun _ _ x => x)
    obtain ⟨hr, q2⟩ := q2
    subst hr
    wp_walk
    exact ⟨rfl, i + 1, hrest, h1, q2⟩
  case fin =>
    rintro ⟨b1, b2⟩ s' ⟨hb', i, hz, hi, hI⟩
    simp only at hb'
    subst hb'
    have hge : items.size ≤ i := by
      rcases Nat.lt_or_ge i (items.toList.zip items2.toList).length with h' | h'
      · rw [List.drop_eq_getElem_cons h'] at hz; cases hz
      · exact hZ ▸ h'
    have hi' : i = items.size := by omega
    have hR : R (.ok (.ret (.bool false))) s' := fin s' (hi' ▸ hI)
    wp_walk
    simpa [Builtin.Tuple.tupleCompareSizes, hsz, bne] using hR
  case h =>
    exact ⟨rfl, 0, rfl, Nat.zero_le _, h0⟩
theorem list_neL (l b : Addr) (items items2 : Array Value) (n n2 : Nat) (hsz : (items.size != items2.size) = true) {s : Shared}
    (hl1 : s.heap.get? l = some { cls := .type "list", data := .seq items n }) (hb1 : s.heap.get? b = some { cls := .type "list", data := .seq items2 n2 }) (h : R (.ok (.ret (.bool true))) s) :
    wpAny (model prog w) A.in1 (Builtin.«list.__ne__» ⟨[.ref l, .ref b], []⟩) (GQ.FinOf prog w A R) (fun e s' => R (.error e) s') s := by
  have f3 := AutoSeq1.sub_list_list
  obtain ⟨hp, g, d, tk, os⟩ := s
  wp_walk using wpAny_loadPart' hl1, wpAny_loadPart' hb1
  exact h
theorem nc_listL {s : Shared} {l b : Addr} {items items2 : Array Value} {n n2 : Nat} {Q : Value → Shared → Prop} (hsz : (items.size != items2.size) = true) (hu : A.units < cLine)
    (hl1 : s.heap.get? l = some { cls := .type "list", data := .seq items n }) (hb1 : s.heap.get? b = some { cls := .type "list", data := .seq items2 n2 }) (h : Q (.bool true) s) : wpAny (model prog w) A (richCompare .NotEq (.ref l) (.ref b)) Q E s := by
  refine wpAny_richCompare_same_room (op := .NotEq) ⟨_, hl1, rfl⟩ ⟨_, hb1, rfl⟩ F.slot_list_ne (GQ.call_here F.slot_list_ne ⟨_, hl1, rfl⟩ F.entry_list_ne (F.args_list_ne_2 _ _) ?_) hu
  exact list_neL (R := wants (fun v s' => v ≠ .notImplemented ∧ Q v s') E) l b items items2 n n2 hsz hl1 hb1 ⟨(fun x => nomatch x), h⟩
theorem nc_tupG {s : Shared} {l b : Addr} {items items2 : Array Value} {Q : Value → Shared → Prop} (hsz : items.size = items2.size) (hu : A.units < cLine) (I : Nat → Shared → Prop)
    (hl : s.heap.IsTuple l items) (hb : s.heap.IsTuple b items2)
    (turn : ∀ i (h1 : i < items.size) (h2 : i < items2.size) s, I i s → wpAny (model prog w) A.in1 (eqBool items[i] items2[i]) (fun r s' => r = true ∧ I (i + 1) s') E s)
    (fin : ∀ s, I items.size s → Q (.bool false) s) (h : I 0 s) : wpAny (model prog w) A (richCompare .NotEq (.ref l) (.ref b)) Q E s := by
  obtain ⟨⟨cls, dd, data, sl⟩, ho, hc, n, hd⟩ := id hl
  obtain ⟨⟨cls2, dd2, data2, sl2⟩, ho2, hc2, n2, hd2⟩ := id hb
  simp only at hc hd hc2 hd2
  subst hc hd hc2 hd2
  refine wpAny_richCompare_same_room (op := .NotEq) ⟨_, ho, rfl⟩ ⟨_, ho2, rfl⟩ F.slot_tuple_ne (GQ.call_here F.slot_tuple_ne ⟨_, ho, rfl⟩ F.entry_tuple_ne (F.args_tuple_ne_2 _ _) ?_) hu
  exact tuple_neG (R := wants (fun v s' => v ≠ .notImplemented ∧ Q v s') E) l b items items2 n n2 dd dd2 sl sl2 hsz I turn (fun s' q => ⟨(fun x => nomatch x), fin s' q⟩) ho ho2 h
end

/-- a class with its own == -/
structure EqC (P : Program) (w : World) (K : PySem.W.Frag) (mg : Str → Option Value) (base : Heap) (k : Nat) (c : Str) (fden : List D → FR) : Prop where
  ex : ∃ C f fd, FnD P w K mg base k f fd ["self", "other"] fden ∧ mg c = some (.ref C) ∧ PySem.W.findIn K (.ref C) "__eq__" = some (some (.ref f)) ∧ PySem.W.isFn K (.ref f) = true ∧ Binds K fd ["self", "other"] [] ∧
    PySem.W.findIn K (.ref C) "__ne__" = some (some (.builtin "object.__ne__")) ∧ PySem.W.mroIn K C (.type "object") = some true ∧ ∀ t ∈ ["NoneType", "bool", "int", "str", "list", "tuple", "dict"], PySem.W.subIn K (.type t) (.ref C) = some false
def okOther (c : Str) : D → Bool
  | .obj _ c2 _ _ => decide (c2 = c)
  | y => (tyD y).isSome
theorem okOther_or {c : Str} {y : D} (h : okOther c y = true) : (∃ o ns xs, y = .obj o c ns xs) ∨ ∃ t, tyD y = some t := by
  cases y with
  | obj o c2 ns xs => exact .inl ⟨o, ns, xs, by rw [of_decide_eq_true h]⟩
  | _ => exact .inr (Option.isSome_iff_exists.mp h)
theorem tyD_mem {y : D} {t : String} (h : tyD y = some t) : t ∈ ["NoneType", "bool", "int", "str", "list", "tuple", "dict"] := by
  cases y <;> cases h <;> decide
def ownEq (c : Str) (fden : List D → FR) (x y : D) : Option Bool := match x with
  | .obj _ c' _ _ => if c' = c ∧ froz x = true ∧ froz y = true ∧ okOther c y = true then match fden [x, y] with
    | .ok (.bl k) _ => some k
    | _ => none
    else none
  | _ => none
def fEqO (c : Str) (fden : List D → FR) (x y : D) : Option D := (ownEq c fden x y).map .bl
def fNeO (c : Str) (fden : List D → FR) (x y : D) : Option D := (ownEq c fden x y).map fun b => .bl (!b)
def rOwn (K : PySem.W.Frag) (mg : Str → Option Value) (C : Addr) (fden : List D → FR) (neg : Bool) : R2 := fun x y H Q => ∃ a dx fs t, x = .ref a ∧ H a = some (.ins C dx fs) ∧ (TyX K H y t ∨ ∃ b dy gs, y = .ref b ∧ H b = some (.ins C dy gs) ∧ t = .ref C) ∧ PySem.W.notFirst K C t = true ∧
  spD K mg 2 fden [x, y] H (fun v H' => ∃ k, v = .bl k ∧ Q (.bl (if neg then !k else k)) H') fun _ _ _ => False
section
variable {X : Cx} {k : Nat} {c : Str} {fden : List D → FR}
theorem own_run {pins : List (Addr × Obj)} {σ : L2.St} {H : Hp} {s : Shared} {f : Addr} {fd : FuncData} {a : Addr} {y : V} {u : Value} {A : Around} {Q : V → Hp → Prop} {neg : Bool} (hgd : A.guards = some []) (hr : Room k A) (hfr : A.frames = X.A.frames) (F0 : FnD X.prog X.w X.K X.mg X.base k f fd ["self", "other"] fden) (hb : Binds X.K fd ["self", "other"] [])
    (I : Inv X pins σ H s) (ry : RelV y u) (q : spD X.K X.mg 2 fden [.ref a, y] H Q fun _ _ _ => False) {Q2 : Value → Shared → Prop} {E : Value → Shared → Prop} (h : ∀ u s', EP X pins σ Q u s' → Q2 u s') : wpAny (model X.prog X.w) A (call (.ref f) [.ref a, u]) Q2 E s := by
  have e0 : Env0 X.prog X.w X.K X.mg X.base A X.stack s H := by
    have e := I.env0
    exact ⟨by rw [hfr]; exact e.frames, e.mod, e.bs, e.bsz, e.funs, e.frf, e.hok, e.bare⟩
  have r2 : Vals [V.ref a, y] [Value.ref a, u] := .cons rfl (.cons ry .nil)
  have bb := hb s [.ref a, u] I.kIn rfl
  refine wpAny_call (codeAny_mono (F0.run A X.stack s H ⟨[.ref a, u], []⟩ [.ref a, u] [.ref a, y] Q (fun _ _ _ => False) hr hgd e0 bb r2 q) fun r s' hq => ?_)
  cases r with
  | error e => obtain ⟨_, _, _, _, _, _, _, _, _, _, _, _, z⟩ := (show L2.CX X.prog X.w X.stack H _ (fun _ _ _ => False) e s' from hq); exact z.elim
  | ok fl =>
    cases fl with
    | ret w => exact h w s' (I.after hq)
    | next => exact False.elim hq
    | brk => exact False.elim hq
    | cont => exact False.elim hq
theorem ty_look {pins : List (Addr × Obj)} {σ : L2.St} {H : Hp} {s : Shared} {y : V} {u t : Value} {C : Addr} (I : Inv X pins σ H s) (ry : RelV y u) (h : TyX X.K H y t ∨ ∃ b dy gs, y = .ref b ∧ H b = some (.ins C dy gs) ∧ t = .ref C) : PySem.W.Looks (model X.prog X.w) s.heap (typeOf u) t := by
  rcases h with h | ⟨b, dy, gs, rfl, hb, rfl⟩
  · obtain ⟨P, Z, p, _⟩ := kit_of I ry h
    exact Z.ty _ _ I.kIn p
  · cases ry
    obtain ⟨mB, J', _⟩ := ins_get I.hok hb
    obtain ⟨od', J', _⟩ := J'.look
    exact J'.type
theorem op_eqO (hgd : X.A.guards = some []) (h : EqC X.prog X.w X.K X.mg X.base k c fden) (hr : Room k X.A) : ∃ C, X.mg c = some (.ref C) ∧ OpR X (compareOp .Eq) (rOwn X.K X.mg C fden false) := by
  obtain ⟨C, f, fd, F0, hC, he, hf, hb, hne, hm, hsub⟩ := h.ex
  refine ⟨C, hC, fun pins s σ H x y v u Q I rx ry hq => ?_⟩
  obtain ⟨a, dx, fs, t, rfl, ha, ht, hn, q⟩ := hq
  cases rx
  obtain ⟨mA, J, _⟩ := ins_get I.hok ha
  obtain ⟨od, J, _⟩ := J.look
  obtain ⟨m, hF⟩ := I.fr
  show wpAny (model X.prog X.w) X.A (richCompare .Eq (.ref a) u) (EP X pins σ Q) X.xe s
  refine PySem.W.cmp_K (op := .Eq) hr.units0 hF I.ok.mod.kin J (ty_look I ry ht) hn he hf (own_run (neg := false) hgd hr rfl F0 hb I ry q fun w s' hw => ?_)
  obtain ⟨z, H', I', rz, kk, rfl, q'⟩ := hw
  cases rz
  exact ⟨.bl kk, H', I', rfl, q'⟩
theorem op_neO (hgd : X.A.guards = some []) (h : EqC X.prog X.w X.K X.mg X.base k c fden) (hr : Room (k + 1) X.A) : ∃ C, X.mg c = some (.ref C) ∧ OpR X (compareOp .NotEq) (rOwn X.K X.mg C fden true) := by
  obtain ⟨C, f, fd, F0, hC, he, hf, hb, hne, hm, hsub⟩ := h.ex
  refine ⟨C, hC, fun pins s σ H x y v u Q I rx ry hq => ?_⟩
  obtain ⟨a, dx, fs, t, rfl, ha, ht, hn, q⟩ := hq
  cases rx
  obtain ⟨mA, J, _⟩ := ins_get I.hok ha
  obtain ⟨od, J, _⟩ := J.look
  show wpAny (model X.prog X.w) X.A (richCompare .NotEq (.ref a) u) (EP X pins σ Q) X.xe s
  refine ne_K (by have := hr.un; omega) I.kIn J (ty_look I ry ht) hn hne he hf hm (own_run (A := X.A.in1) (neg := true) hgd hr.in1 rfl F0 hb I ry q fun w s' hw => ?_)
  obtain ⟨z, H', I', rz, kk, rfl, q'⟩ := hw
  cases rz
  exact ⟨kk, rfl, .bl (!kk), H', I', rfl, q'⟩
def rNeT (K : PySem.W.Frag) (mg : Str → Option Value) (C : Addr) (fden : List D → FR) : R2 := fun x y H Q => ∃ a b x1 y1 n, x = .ref a ∧ y = .ref b ∧ SqT K H a [x1, .int n] ∧ SqT K H b [y1, .int n] ∧
  Q (.bl false) H ∧ rOwn K mg C fden false x1 y1 H fun v H' => v = .bl true ∧ Q (.bl false) H'
theorem spD_monoQ {K : PySem.W.Frag} {mg : Str → Option Value} {n : Nat} {fden : List D → FR} {vs : List V} {H : Hp} {Q Q' : V → Hp → Prop} {E : XK} (h : spD K mg n fden vs H Q E) (hq : ∀ v H, Q v H → Q' v H) : spD K mg n fden vs H Q' E := by
  obtain ⟨hl, F, ds, S, h1, h2, h3, h4, h5⟩ := h
  refine ⟨hl, F, ds, S, h1, h2, h3, h4, ?_⟩
  revert h5
  cases fden ds with
  | ok d ps => exact fun h5 => ⟨h5.1, h5.2.1, fun v H' F' p => hq _ _ (h5.2.2 v H' F' p)⟩
  | er c ns xs ps => exact fun h5 => h5
  | no => exact fun h5 => h5
theorem own_eqb {pins : List (Addr × Obj)} {σ : L2.St} {H : Hp} {s : Shared} {C f a1 dx : Addr} {fs : List (Str × V)} {t : Value} {fd : FuncData} {y1 : V} {u1 : Value} {A : Around} {P : Shared → Prop} (hgd : A.guards = some []) (hr : Room k A) (hfr : A.frames = X.A.frames) (F0 : FnD X.prog X.w X.K X.mg X.base k f fd ["self", "other"] fden) (hb : Binds X.K fd ["self", "other"] [])
    (he : PySem.W.findIn X.K (.ref C) "__eq__" = some (some (.ref f))) (hf : PySem.W.isFn X.K (.ref f) = true) (I : Inv X pins σ H s) (ry : RelV y1 u1) (ha : H a1 = some (.ins C dx fs)) (ht : TyX X.K H y1 t ∨ ∃ b dy gs, y1 = .ref b ∧ H b = some (.ins C dy gs) ∧ t = .ref C) (hn : PySem.W.notFirst X.K C t = true)
    (q : spD X.K X.mg 2 fden [.ref a1, y1] H (fun v H' => ∃ k, v = .bl k ∧ k = true ∧ ∀ s', Inv X pins σ H' s' → P s') fun _ _ _ => False) (q0 : P s) : wpAny (model X.prog X.w) A (eqBool (.ref a1) u1) (fun r s2 => r = true ∧ P s2) X.xe s := by
  by_cases hab : u1 = .ref a1
  · subst hab
    exact SeqAt.EqAt.same (A := A) (s := s) (.ref a1) X.prog X.w X.xe _ ⟨rfl, q0⟩
  · obtain ⟨mA, J, _⟩ := ins_get I.hok ha
    obtain ⟨od, J, _⟩ := J.look
    obtain ⟨m, hF⟩ := I.fr
    have key : wpAny (model X.prog X.w) A (richCompare .Eq (.ref a1) u1) (fun v s' => ∃ r, v = .bool r ∧ (r = true ∧ P s')) X.xe s :=
      PySem.W.cmp_K (op := .Eq) hr.units0 hF I.ok.mod.kin J (ty_look I ry ht) hn he hf (own_run (A := A) (neg := false) hgd hr hfr F0 hb I ry q fun w s' hw => by
        obtain ⟨z, H', I', rz, kk, rfl, rfl, q'⟩ := hw
        cases rz
        exact ⟨true, rfl, rfl, q' s' I'⟩)
    unfold eqBool
    refine wpAny_holding ?_
    refine wpAny_ite_split (fun hab2 => absurd (eq_of_beq hab2).symm hab) (fun _ => ?_)
    refine wpAny_bind (wpAny_mono key (fun v s' hv => ?_) fun _ _ x => x)
    obtain ⟨r, rfl, q⟩ := hv
    exact wpAny_truthy_bool q
theorem eqV_int (n : Int) : eqV (.int n) (.int n) = true := by unfold eqV; simp
theorem op_neT (hgd : X.A.guards = some []) (h : EqC X.prog X.w X.K X.mg X.base k c fden) (hr : Room (k + 1) X.A) : ∃ C, X.mg c = some (.ref C) ∧ OpR X (compareOp .NotEq) (rNeT X.K X.mg C fden) := by
  obtain ⟨C, f, fd, F0, hC, he, hf, hb, hne, hm, hsub⟩ := h.ex
  refine ⟨C, hC, fun pins s σ H x y v u Q I rx ry hq => ?_⟩
  obtain ⟨a, b, x1, y1, n, rfl, rfl, ha, hb2, q0, a1, dx, fs, t, rfl, ha1, ht, hn, q⟩ := hq
  cases rx
  cases ry
  obtain ⟨its, r, e, z⟩ := I.tuple ha
  obtain ⟨its2, r2, e2, z2⟩ := I.tuple hb2
  cases r with
  | @cons _ v1 _ _ ra1 ra =>
  cases ra with
  | @cons _ v2 _ _ ra2 ra =>
  cases ra
  cases r2 with
  | @cons _ u1 _ _ rb1 rb =>
  cases rb with
  | @cons _ u2 _ _ rb2 rb =>
  cases rb
  cases ra1
  show wpAny (model X.prog X.w) X.A (richCompare .NotEq (.ref a) (.ref b)) (EP X pins σ Q) X.xe s
  have two : ∀ {P : Shared → Prop} {s'}, P s' → wpAny (model X.prog X.w) X.A.in1 (eqBool v2 u2) (fun r s2 => r = true ∧ P s2) X.xe s' := fun {P s'} q' => by
    have w0 := eqAt_V (A := X.A.in1) (s := s') ra2 rb2 rfl rfl
    rw [eqV_int n] at w0
    exact w0 X.prog X.w X.xe _ ⟨rfl, q'⟩
  have one := own_eqb (A := X.A.in1) (P := fun s' => ∃ H', Inv X pins σ H' s' ∧ Q (.bl false) H') hgd hr.in1 rfl F0 hb he hf I rb1 ha1 ht hn
    (by
      refine spD_monoQ q fun v H' => ?_
      rintro ⟨kk, rfl, e1, q'⟩
      cases e1
      exact ⟨true, rfl, rfl, fun s' I' => ⟨H', I', q'⟩⟩) ⟨H, I, q0⟩
  refine nc_tupG (items := [Value.ref a1, v2].toArray) (items2 := [u1, u2].toArray) rfl hr.units0 (fun i s' => (i = 0 → s' = s) ∧ (i ≠ 0 → ∃ H', Inv X pins σ H' s' ∧ Q (.bl false) H')) e e2 (fun i h1 h2 s' hI => ?_) (fun s' hI => ?_) ⟨fun _ => rfl, fun z => absurd rfl z⟩
  · obtain ⟨i0, i1⟩ := hI
    have h1' : i < 2 := h1
    have hi : i = 0 ∨ i = 1 := by omega
    rcases hi with rfl | rfl
    · have e0 := i0 rfl
      rw [e0]
      exact wpAny_mono one (fun r s2 ⟨hr', P2⟩ => ⟨hr', fun z => absurd z (by decide), fun _ => P2⟩) fun _ _ x => x
    · exact wpAny_mono (two (P := fun s' => ∃ H', Inv X pins σ H' s' ∧ Q (.bl false) H') (i1 (by decide))) (fun r s2 ⟨hr', P2⟩ => ⟨hr', fun z => absurd z (by decide), fun _ => P2⟩) fun _ _ x => x
  · obtain ⟨H', I', q'⟩ := hI.2 (by show (2 : Nat) ≠ 0; decide)
    exact ⟨.bl false, H', I', rfl, q'⟩
def rNeNil : R2 := fun x y H Q => ∃ a b xs, x = .ref a ∧ y = .ref b ∧ H a = some (.lst xs) ∧ H b = some (.lst []) ∧ xs ≠ [] ∧ Q (.bl true) H
theorem op_neNil (hu : X.A.units + 64 < cLine) : OpR X (compareOp .NotEq) rNeNil := by
  intro pins s σ H x y v u Q I rx ry hq
  obtain ⟨a, b, xs, rfl, rfl, ha, hb, hx, q⟩ := hq
  cases rx
  cases ry
  obtain ⟨z, its, k, r, e⟩ := I.hok a _ ha
  obtain ⟨z2, its2, k2, r2, e2⟩ := I.hok b _ hb
  cases r2
  show wpAny (model X.prog X.w) X.A (richCompare .NotEq (.ref a) (.ref b)) (EP X pins σ Q) X.xe s
  refine nc_listL (items := its.toArray) (items2 := [].toArray) ?_ (by omega) e e2 ⟨.bl true, H, I, rfl, q⟩
  cases r with
  | nil => exact absurd rfl hx
  | cons _ _ => simp
end
section
variable {X : Cx} {c : Str} {fden : List D → FR} {C : Addr}
theorem own_rp {neg : Bool} (hC : X.mg c = some (.ref C)) (hsub : ∀ t ∈ ["NoneType", "bool", "int", "str", "list", "tuple", "dict"], PySem.W.subIn X.K (.type t) (.ref C) = some false) {B : Bd} {σ : L2.St} {H F : Hp} {env ts : List D} {vs : List V} {dx dy : D} {vx vy : V} {Sx Sy : List Addr} {b : Bool} {Q : VK} (R : RE X.K X.mg B σ H F env ts vs) (h1 : Rp X.K X.mg F H dx vx Sx) (h2 : Rp X.K X.mg F H dy vy Sy) (e : ownEq c fden dx dy = some b)
    (k : ∀ v H' F', RE X.K X.mg B σ H' F' env (ts ++ [.bl (if neg then !b else b)]) (vs ++ [v]) → Q v H') : rOwn X.K X.mg C fden neg vx vy H Q := by
  cases dx with
  | obj o c' ns xs =>
    unfold ownEq at e
    dsimp only at e
    split at e
    · rename_i hz
      obtain ⟨rfl, f1, f2, hy⟩ := hz
      have e1 := h1.froz f1
      have e2 := h2.froz f2
      subst e1 e2
      obtain ⟨a, dx, us, S', rfl, hl, hr, ha⟩ := h1.ins R.ex hC
      have htt : ∃ t, (TyX X.K H vy t ∨ ∃ b dy gs, vy = .ref b ∧ H b = some (.ins C dy gs) ∧ t = .ref C) ∧ PySem.W.notFirst X.K C t = true := by
        rcases okOther_or hy with ⟨o2, ns2, xs2, rfl⟩ | ⟨t, hty⟩
        · obtain ⟨b, dy, us, S', rfl, hl, hr, hb⟩ := h2.ins R.ex hC
          exact ⟨.ref C, .inr ⟨b, dy, _, rfl, hb, rfl⟩, by unfold PySem.W.notFirst; simp⟩
        · refine ⟨.type t, .inl (tyD_ok h2 R.ex hty), ?_⟩
          unfold PySem.W.notFirst
          rw [hsub t (tyD_mem hty)]
          simp
      obtain ⟨t, ht, hnf⟩ := htt
      refine ⟨a, dx, _, t, rfl, ha, ht, hnf, ?_⟩
      have z := RE.back (fden := fden) (ds := []) (ws := []) (xs := []) (e1 := env) (ddx := [.obj o c' ns xs, dy]) (dvx := [.ref a, vy]) (n := 2) (Q := fun v H' => ∃ k, v = .bl k ∧ Q (.bl (if neg then !k else k)) H') (E := fun _ _ _ => False) (by rw [List.append_nil, List.append_nil]; exact R) rfl (by unfold takeA; rfl) (RpL.cons (S1 := []) (S2 := []) h1 (RpL.one h2)) rfl ?_
      · exact z
      · unfold FRP
        rw [List.nil_append]
        split at e
        · rename_i kk pp hfd
          cases e
          rw [hfd]
          refine ⟨rfl, rfl, fun v H' F' R' => ?_⟩
          have e1 : putA [] pp env = env := by unfold putA; cases pp <;> rfl
          rw [e1] at R'
          obtain ⟨S, rv⟩ := R'.last (d := .bl b) (fun z => by cases z)
          have hv : v = .bl b := by
            have rv' : Rp X.K X.mg F' H' (.bl b) v S := rv
            unfold Rp at rv'; exact rv'.1
          exact ⟨b, hv, k _ _ _ ((R'.drop rfl).push0 (Tm.of rp_bl))⟩
        · cases e
    · cases e
  | _ => cases e
theorem os_own {neg : Bool} {f : D → D → Option D} (hf : ∀ x y, f x y = (ownEq c fden x y).map fun b => .bl (if neg then !b else b)) (hC : X.mg c = some (.ref C)) (hsub : ∀ t ∈ ["NoneType", "bool", "int", "str", "list", "tuple", "dict"], PySem.W.subIn X.K (.type t) (.ref C) = some false) : OpS X.K X.mg (rOwn X.K X.mg C fden neg) f := by
  intro B σ H F env ts vs dx dy vx vy Sx Sy d Q R h1 h2 e k
  rw [hf] at e
  obtain ⟨b, eb, rfl⟩ := Option.map_eq_some_iff.mp e
  exact own_rp hC hsub R h1 h2 eb k
/-- (an instance, a number) != (an instance, a number): False, where both are equal -/
def fNeT (c : Str) (fden : List D → FR) : D → D → Option D
  | .tup [x, .int n], .tup [y, .int m] => if n = m ∧ ownEq c fden x y = some true then some (.bl false) else none
  | _, _ => none
theorem ownEq_fr {x y : D} {b : Bool} (h : ownEq c fden x y = some b) : froz x = true ∧ froz y = true := by
  cases x with
  | obj o c' ns xs =>
    unfold ownEq at h
    dsimp only at h
    split at h
    · rename_i hz; exact ⟨hz.2.1, hz.2.2.1⟩
    · cases h
  | _ => cases h
theorem os_neT (hC : X.mg c = some (.ref C)) (hsub : ∀ t ∈ ["NoneType", "bool", "int", "str", "list", "tuple", "dict"], PySem.W.subIn X.K (.type t) (.ref C) = some false) : OpS X.K X.mg (rNeT X.K X.mg C fden) (fNeT c fden) := by
  intro B σ H F env ts vs dx dy vx vy Sx Sy d Q R h1 h2 e k
  unfold fNeT at e
  split at e
  · rename_i x n y m
    split at e
    · rename_i hz
      obtain ⟨rfl, eo⟩ := hz
      cases e
      obtain ⟨fx, fy⟩ := ownEq_fr eo
      obtain ⟨a, vs1, rfl, l1, t1, _⟩ := tup_inv0 h1 R.ex (by unfold frozL; rw [fx]; rfl)
      obtain ⟨b, vs2, rfl, l2, t2, _⟩ := tup_inv0 h2 R.ex (by unfold frozL; rw [fy]; rfl)
      obtain ⟨x1, r1, S1, S2, rfl, es, rx, l1⟩ := l1
      obtain ⟨x2, r2, S3, S4, rfl, es2, rn, l1⟩ := l1
      obtain ⟨rfl, rfl⟩ := l1
      obtain ⟨y1, r3, S5, S6, rfl, es3, ry, l2⟩ := l2
      obtain ⟨y2, r4, S7, S8, rfl, es4, rm, l2⟩ := l2
      obtain ⟨rfl, rfl⟩ := l2
      unfold Rp at rn rm
      obtain ⟨rfl, rfl⟩ := rn
      obtain ⟨rfl, rfl⟩ := rm
      refine ⟨a, b, x1, y1, n, rfl, rfl, t1, t2, k _ _ _ (R.push0 (Tm.of rp_bl)), ?_⟩
      refine own_rp (neg := false) hC hsub R rx ry eo fun v H' F' R' => ⟨?_, k _ _ _ ((R'.drop rfl).push0 (Tm.of rp_bl))⟩
      obtain ⟨S, rv⟩ := R'.last (d := .bl true) (fun z => by cases z)
      have rv' : Rp X.K X.mg F' H' (.bl true) v S := rv
      unfold Rp at rv'; exact rv'.1
    · cases e
  · cases e
def fEqX (c : Str) (fden : List D → FR) : D → D → Option D := fOr (fEqO c fden) fEqA
/-- something that is no empty list != [] -/
def fNeNil : D → D → Option D
  | .lst _ (_ :: _), .lst _ [] => some (.bl true)
  | _, _ => none
theorem os_neNil {K : PySem.W.Frag} {mg : Str → Option Value} : OpS K mg rNeNil fNeNil := by
  intro B σ H F env ts vs dx dy vx vy Sx Sy d Q R h1 h2 e k
  unfold fNeNil at e
  split at e
  · cases e
    obtain ⟨a, us, S', rfl, hr, ha⟩ := lst_inv h1 R.ex
    obtain ⟨b, us2, S2, rfl, hr2, hb⟩ := lst_inv h2 R.ex
    unfold RpL at hr2
    obtain ⟨rfl, _⟩ := hr2
    refine ⟨a, b, us, rfl, rfl, ha, hb, fun z => ?_, k _ _ _ (R.push0 (Tm.of rp_bl))⟩
    have := hr.len
    rw [z] at this
    cases this
  · cases e
def fNeB : D → D → Option D := fOr fNeA fNeNil
theorem neB_of {x y d : D} (h : fNeA x y = some d) : fNeB x y = some d := by unfold fNeB fOr; rw [h]
def fNeX (c : Str) (fden : List D → FR) : D → D → Option D := fOr (fNeO c fden) (fOr (fNeT c fden) fNeB)
theorem fNeB_un1 (y : D) : fNeB .un y = none := by unfold fNeB fOr; rw [fNeA_un1]; rfl
theorem fNeB_un2 (x : D) : fNeB x .un = none := by
  unfold fNeB fOr
  rw [fNeA_un2]
  dsimp only
  unfold fNeNil
  split
  · rename_i h; cases h
  · rfl
theorem fEqX_un1 (y : D) : fEqX c fden .un y = none := by unfold fEqX fOr fEqO ownEq; exact fEqA_un1 y
theorem ownEq_un2 (x : D) : ownEq c fden x .un = none := by
  cases x with
  | obj o c' ns xs =>
    unfold ownEq
    dsimp only
    rw [if_neg]
    rintro ⟨_, _, h, _⟩
    cases h
  | _ => rfl
theorem fEqX_un2 (x : D) : fEqX c fden x .un = none := by unfold fEqX fOr fEqO; rw [ownEq_un2]; exact fEqA_un2 x
theorem fNeT_un2 (x : D) : fNeT c fden x .un = none := by
  unfold fNeT
  split
  · rename_i h; cases h
  · rfl
theorem fNeX_un1 (y : D) : fNeX c fden .un y = none := by unfold fNeX fOr fNeO ownEq; exact fNeB_un1 y
theorem fNeX_un2 (x : D) : fNeX c fden x .un = none := by unfold fNeX fOr fNeO; rw [ownEq_un2, fNeT_un2]; exact fNeB_un2 x
theorem op_eqX {k : Nat} (hgd : X.A.guards = some []) (h : EqC X.prog X.w X.K X.mg X.base k c fden) (hr : Room k X.A) (hu : X.A.units + 64 < cLine) : ∃ r, OpR X (compareOp .Eq) r ∧ OpS X.K X.mg r (fEqX c fden) := by
  obtain ⟨C, hC, o⟩ := op_eqO hgd h hr
  obtain ⟨C2, f, fd, F0, hC2, he, hf, hb, hne, hm, hsub⟩ := h.ex
  rw [hC] at hC2
  cases hC2
  exact ⟨_, OpR.or o (op_eqA hu), OpS.or (os_own (neg := false) (fun x y => rfl) hC hsub) os_eqA⟩
theorem op_neX {k : Nat} (hgd : X.A.guards = some []) (h : EqC X.prog X.w X.K X.mg X.base k c fden) (hr : Room (k + 1) X.A) (hu : X.A.units + 64 < cLine) : ∃ r, OpR X (compareOp .NotEq) r ∧ OpS X.K X.mg r (fNeX c fden) := by
  obtain ⟨C, hC, o⟩ := op_neO hgd h hr
  obtain ⟨C3, hC3, o3⟩ := op_neT hgd h hr
  obtain ⟨C2, f, fd, F0, hC2, he, hf, hb, hne, hm, hsub⟩ := h.ex
  rw [hC] at hC2 hC3
  cases hC2
  cases hC3
  exact ⟨_, OpR.or o (OpR.or o3 (OpR.or (op_neA hu) (op_neNil hu))), OpS.or (os_own (neg := true) (fun x y => rfl) hC hsub) (OpS.or (os_neT hC hsub) (OpS.or os_neA os_neNil))⟩
section
variable {W : WX} {a b : Expr} {da db : Dn D} {pos : Pos} {k : Nat}
theorem ge_eqX (hgd : X.A.guards = some []) (h : EqC X.prog X.w X.K X.mg X.base k c fden) (hr : Room k X.A) (hu : X.A.units + 64 < cLine) (ha : GE X W a da) (hb : GE X W b db) : GE X W (.Compare a [.Eq] [b] pos) (dOp (fEqX c fden) da db) := by
  obtain ⟨r, o, s⟩ := op_eqX hgd h hr hu
  exact ge_cmp o s ha hb (by exact nomark _) fEqX_un1 fEqX_un2
theorem ge_neX (hgd : X.A.guards = some []) (h : EqC X.prog X.w X.K X.mg X.base k c fden) (hr : Room (k + 1) X.A) (hu : X.A.units + 64 < cLine) (ha : GE X W a da) (hb : GE X W b db) : GE X W (.Compare a [.NotEq] [b] pos) (dOp (fNeX c fden) da db) := by
  obtain ⟨r, o, s⟩ := op_neX hgd h hr hu
  exact ge_cmp o s ha hb (by exact nomark _) fNeX_un1 fNeX_un2
theorem gt_eqX (hgd : X.A.guards = some []) (h : EqC X.prog X.w X.K X.mg X.base k c fden) (hr : Room k X.A) (hu : X.A.units + 64 < cLine) (ha : GE X W a da) (hb : GE X W b db) : GT X W (.Compare a [.Eq] [b] pos) (dTest (dOp (fEqX c fden) da db)) := by
  obtain ⟨r, o, s⟩ := op_eqX hgd h hr hu
  exact gt_cmp o s ha hb (by exact nomark _) fEqX_un1 fEqX_un2
theorem gt_neX (hgd : X.A.guards = some []) (h : EqC X.prog X.w X.K X.mg X.base k c fden) (hr : Room (k + 1) X.A) (hu : X.A.units + 64 < cLine) (ha : GE X W a da) (hb : GE X W b db) : GT X W (.Compare a [.NotEq] [b] pos) (dTest (dOp (fNeX c fden) da db)) := by
  obtain ⟨r, o, s⟩ := op_neX hgd h hr hu
  exact gt_cmp o s ha hb (by exact nomark _) fNeX_un1 fNeX_un2
end

/-! ### isinstance(x, C), x an instance perhaps -/
structure InsK (K : PySem.W.Frag) (D : Addr) : Prop where
  cl : Cls K D
  ca : PySem.W.findIn K (.ref D) "__class__" = some (some (.builtin "object.__class__"))
  nd : PySem.W.specialIn K (.builtin "object.__class__") "__get__" = some (some (.builtin "getset_descriptor.__get__"))
  tk : PySem.W.takesIn K (.builtin "object.__class__") = some true
  mr : PySem.W.mroIn K D (.type "object") = some true
def fIsO (tb tob : List (Str × Bool)) (tt : List String) : D → Option D
  | .obj _ c _ _ => (tob.lookup c).map .bl
  | d => fIsE tb tt d
structure IsoT (K : PySem.W.Frag) (mg : Str → Option Value) (h : Str) (tb tob : List (Str × Bool)) (tt : List String) : Prop where
  ex : ∃ C, mg h = some (.ref C) ∧ (∀ c b, tb.lookup c = some b → ∀ D, mg c = some (.ref D) → ExcK K D ∧ PySem.W.kitOne K (.ref D) (.ref C) = some b) ∧ (∀ c b, tob.lookup c = some b → ∀ D, mg c = some (.ref D) → InsK K D ∧ PySem.W.kitOne K (.ref D) (.ref C) = some b) ∧ ∀ t, t ∈ tt → PySem.W.kitOne K (.type t) (.ref C) = some false
theorem ge_isiO {W : WX} {e : Expr} {da : Dn D} {p p2 pos : Pos} {y : Str} {tb tob : List (Str × Bool)} {tt : List String} (he : GE X W e da) (hm : X.mg "isinstance" = none) (h : IsoT X.K X.mg y tb tob tt) (hg : Gl X "isinstance" := by rfl) (hgy : Gl X y := by rfl) (hyd : (y == ("__debug__" : Str)) = false := by decide)
    (hs : starEach [e, .Name y p2] X.env = (false, eval e X.env) :: starEach [.Name y p2] X.env := by rfl) (hs2 : starEach [.Name y p2] X.env = (false, eval (.Name y p2) X.env) :: starEach [] X.env := by rfl) (hpl : (backTo pos (starEach [.Name y p2] X.env)).any (·.1) = false := by rfl) :
    GE X W (.Call (.Name "isinstance" p) [e, .Name y p2] [] pos) (dUn (fIsO tb tob tt) da) := by
  obtain ⟨Cy, hy, hx, ho, ht⟩ := h.ex
  refine PE.imp (pe_callB (call_isiE (.ref Cy)) hg hm (by rfl) (pa_cons he (pa_cons (pe_glob (v := .ref Cy) hgy hy rfl hyd) pa_nil hs2) hs) (by decide) (by decide) hs hpl) fun σ H Q ⟨B, F, env, ts, vs, R, q⟩ => ?_
  refine ⟨B, F, env, ts, vs, R, (ResP.bind q).mono (fun x e1 q1 v H1 F1 R1 => ?_) fun _ _ _ _ z => z⟩
  obtain ⟨d, ed, k⟩ := q1.lift
  obtain ⟨S, rx⟩ := R1.last (fun z => by rw [z] at ed; cases ed)
  have ex := R1.ex
  have fin : ∀ {b : Bool}, d = .bl b → ((∃ t, TyX X.K H1 v t ∧ PySem.W.kitOne X.K t (.ref Cy) = some b) ∨ ∃ a D dx, v = .ref a ∧ H1 a = some (excHO a (.ref D) dx) ∧ (∀ d, dx = some d → ∃ fs, H1 d = some (.xd fs)) ∧ ExcK X.K D ∧ PySem.W.kitOne X.K (.ref D) (.ref Cy) = some b) →
      rIsiE X.K (.ref Cy) [v, .ref Cy] H1 Q := fun {b} eb hh => ⟨v, .ref Cy, b, rfl, .own Cy, hh, by rw [eb] at k; exact k _ _ _ ((R1.drop rfl).push0 (Tm.of rp_bl))⟩
  have plain : ∀ {dd : D} {t : String}, rs e1 x = dd → tyD dd = some t → t ∈ tt → d = .bl false → rIsiE X.K (.ref Cy) [v, .ref Cy] H1 Q := fun {dd t} e0 e2 m eb => by
    rw [e0] at rx
    exact fin eb (.inl ⟨_, tyD_ok rx ex e2, ht t m⟩)
  cases hr : rs e1 x with
  | exc c ns xs =>
    rw [hr] at ed rx
    obtain ⟨b, eb, rfl⟩ := Option.map_eq_some_iff.mp ed
    unfold Rp at rx
    obtain ⟨_, a, C, dx, rfl, hC, hF, hd⟩ := rx
    obtain ⟨h1, h2⟩ := hx c b eb C hC
    refine fin rfl (.inr ⟨a, C, dx, rfl, ex _ _ hF, fun d ed => ?_, h1, h2⟩)
    rcases hd with ⟨_, _, hd⟩ | ⟨d2, vs2, e1, e2, _⟩
    · rw [hd] at ed; cases ed
    · rw [e1] at ed; cases ed; exact ⟨_, ex _ _ e2⟩
  | obj o c ns xs =>
    rw [hr] at ed rx
    obtain ⟨b, eb, rfl⟩ := Option.map_eq_some_iff.mp ed
    have rx' := rx
    unfold Rp at rx'
    obtain ⟨_, C, _, _, _, _, hC, _⟩ := rx'
    obtain ⟨h1, h2⟩ := ho c b eb C hC
    obtain ⟨a, dx, ws, S', rfl, hl, hrr, ha⟩ := rx.ins ex hC
    exact fin rfl (.inl ⟨.ref C, .base (.ins ha h1.cl h1.ca h1.nd h1.tk h1.mr), h2⟩)
  | un => rw [hr] at ed; cases ed
  | sl _ => rw [hr] at ed; cases ed
  | scr _ => rw [hr] at ed; cases ed
  | _ =>
    rw [hr] at ed
    unfold fIsO fIsE tyD at ed
    dsimp only at ed
    rw [Option.bind_some] at ed
    split at ed
    · rename_i m
      cases ed
      exact plain hr rfl m rfl
    · cases ed
end
theorem ge_gb {X : Cx} {W : WX} {e : Expr} {dt : Dn Bool} (h : GB X W e dt) : GE X W e (dB dt) := h
/-! ### a, b = x, y, a cell among the names -/
section
variable {X : Cx} {W : WX} {P : List Nat} {x y z : Str} {a b c : Expr} {px py pz pt pos : Pos} {kt k2 : Nat} {pt2 : Pos} {da : Dn (List D)}
theorem gs_parC (i j : Nat) (hc : X.calm = true) (hN : X.N.Nodup) (ha : GAU X W [a, b] da) (hi : X.N[i]? = some x := by rfl) (hj : X.N[j]? = some y := by rfl) (hij : i ≠ j := by decide)
    (hx : Loc X.env.scope x := by first | exact Or.inl rfl | exact Or.inr rfl) (hy : Loc X.env.scope y := by first | exact Or.inl rfl | exact Or.inr rfl) (hpi : P.contains i = false := by rfl) (hpj : P.contains j = false := by rfl)
    (hfx : X.fn x = true ∨ X.env.scope.names.lookup x = some .local := by first | exact .inl rfl | exact .inr rfl) (hfy : X.fn y = true ∨ X.env.scope.names.lookup y = some .local := by first | exact .inl rfl | exact .inr rfl)
    (hw : swappedStores [.Tuple [.Name x px, .Name y py] kt pt] (.Tuple [a, b] k2 pt2) X.env = pure none := by rfl)
    (hs : swapsWithSole [.Tuple [.Name x px, .Name y py] kt pt] (.Tuple [a, b] k2 pt2) pos.line X.env = pure false := by rfl) :
    GS X W P (.Assign [.Tuple [.Name x px, .Name y py] kt pt] (.Tuple [a, b] k2 pt2) pos) (nPar i j da) := by
  refine PS.imp (ps_asg (pe_tup ha) (pg_tup (n := 2) hc (pgs_cons (pg_name hN hi hx hfx) (pgs_cons (pg_name hN hj hy hfy) pgs_nil))) hs hw) fun T σ H ⟨B, F, env, ts, vs, hpp, na, R, q⟩ => ?_
  refine ⟨B, F, env, ts, vs, R, (ResP.out q).mono (fun ds e1 q1 ws H1 F1 hl nl R1 => ?_) fun _ _ _ _ z => z⟩
  match ds, ws, hl, q1 with
  | [u, w], [u1, w1], _, q1 =>
    refine ⟨(show 2 ≤ sizeLine by decide), fun p hp => ⟨p, [u1, w1], rfl, Or.inl (Or.inl upd_same), rfl, u1, [w1], rfl, w1, [], rfl, rfl, ?_⟩⟩
    have R2 : RE X.K X.mg B σ (upd H1 p (.tup [u1, w1])) F1 e1 (ts ++ [u, w]) (vs ++ [u1, w1]) := let ⟨ow, r⟩ := R1; ⟨ow, r.newH hp⟩
    exact q1 _ _ F1 (R2.store2 (pin_ne hpp hpi) (pin_ne hpp hpj) (nl u (by simp)) (nl w (by simp)) na hij)
  | [], _, _, q1 => exact q1.elim
  | [_], _, _, q1 => exact q1.elim
  | _ :: _ :: _ :: _, _, _, q1 => exact q1.elim
theorem gs_parC3 (i j l : Nat) (hc : X.calm = true) (hN : X.N.Nodup) (ha : GAU X W [a, b, c] da) (hi : X.N[i]? = some x := by rfl) (hj : X.N[j]? = some y := by rfl) (hl : X.N[l]? = some z := by rfl) (hij : i ≠ j := by decide) (hil : i ≠ l := by decide) (hjl : j ≠ l := by decide)
    (hx : Loc X.env.scope x := by first | exact Or.inl rfl | exact Or.inr rfl) (hy : Loc X.env.scope y := by first | exact Or.inl rfl | exact Or.inr rfl) (hz : Loc X.env.scope z := by first | exact Or.inl rfl | exact Or.inr rfl) (hpi : P.contains i = false := by rfl) (hpj : P.contains j = false := by rfl) (hpl : P.contains l = false := by rfl)
    (hfx : X.fn x = true ∨ X.env.scope.names.lookup x = some .local := by first | exact .inl rfl | exact .inr rfl) (hfy : X.fn y = true ∨ X.env.scope.names.lookup y = some .local := by first | exact .inl rfl | exact .inr rfl) (hfz : X.fn z = true ∨ X.env.scope.names.lookup z = some .local := by first | exact .inl rfl | exact .inr rfl)
    (hw : swappedStores [.Tuple [.Name x px, .Name y py, .Name z pz] kt pt] (.Tuple [a, b, c] k2 pt2) X.env = pure none := by rfl)
    (hs : swapsWithSole [.Tuple [.Name x px, .Name y py, .Name z pz] kt pt] (.Tuple [a, b, c] k2 pt2) pos.line X.env = pure false := by rfl) :
    GS X W P (.Assign [.Tuple [.Name x px, .Name y py, .Name z pz] kt pt] (.Tuple [a, b, c] k2 pt2) pos) (nPar3 i j l da) := by
  refine PS.imp (ps_asg (pe_tup ha) (pg_tup (n := 3) hc (pgs_cons (pg_name hN hi hx hfx) (pgs_cons (pg_name hN hj hy hfy) (pgs_cons (pg_name hN hl hz hfz) pgs_nil)))) hs hw) fun T σ H ⟨B, F, env, ts, vs, hpp, na, R, q⟩ => ?_
  refine ⟨B, F, env, ts, vs, R, (ResP.out q).mono (fun ds e1 q1 ws H1 F1 hlw nl R1 => ?_) fun _ _ _ _ z => z⟩
  match ds, ws, hlw, q1 with
  | [u, w, r], [u1, w1, r1], _, q1 =>
    refine ⟨(show 3 ≤ sizeLine by decide), fun p hp => ⟨p, [u1, w1, r1], rfl, Or.inl (Or.inl upd_same), rfl, u1, [w1, r1], rfl, w1, [r1], rfl, r1, [], rfl, rfl, ?_⟩⟩
    have R2 : RE X.K X.mg B σ (upd H1 p (.tup [u1, w1, r1])) F1 e1 (ts ++ [u, w, r]) (vs ++ [u1, w1, r1]) := let ⟨ow, r⟩ := R1; ⟨ow, r.newH hp⟩
    exact q1 _ _ F1 (R2.store3 (pin_ne hpp hpi) (pin_ne hpp hpj) (pin_ne hpp hpl) (nl u (by simp)) (nl w (by simp)) (nl r (by simp)) na hij hil hjl)
  | [], _, _, q1 => exact q1.elim
  | [_], _, _, q1 => exact q1.elim
  | [_, _], _, _, q1 => exact q1.elim
  | _ :: _ :: _ :: _ :: _, _, _, q1 => exact q1.elim
end
section
variable {K : PySem.W.Frag} {mg : Str → Option Value} {B : Bd} {σ : L2.St} {F F' H H' : Hp} {env ts us : List D} {vs ws : List V} {d : D} {v : V}
theorem RE.store4 {i j l m : Nat} {x y z q : D} {v w u r : V} (R : RE K mg B σ H F env (ts ++ [x, y, z, q]) (vs ++ [v, w, u, r])) (hi : ∀ p ∈ B.pins, p.1 ≠ i) (hj : ∀ p ∈ B.pins, p.1 ≠ j) (hl : ∀ p ∈ B.pins, p.1 ≠ l) (hm : ∀ p ∈ B.pins, p.1 ≠ m) (hx : ∀ k, x ≠ .sl k) (hy : ∀ k, y ≠ .sl k) (hz : ∀ k, z ≠ .sl k) (hq : ∀ k, q ≠ .sl k) (na : noAl ts)
    (hij : i ≠ j) (hil : i ≠ l) (hjl : j ≠ l) (him : i ≠ m) (hjm : j ≠ m) (hlm : l ≠ m) : RE K mg B ((((σ.set i (some v)).set j (some w)).set l (some u)).set m (some r)) H F ((((env.set i x).set j y).set l z).set m q) ts vs := by
  have e1 : ts ++ [x, y, z, q] = (ts ++ [x, y, z]) ++ [q] := by rw [List.append_assoc]; rfl
  have e2 : vs ++ [v, w, u, r] = (vs ++ [v, w, u]) ++ [r] := by rw [List.append_assoc]; rfl
  rw [e1, e2] at R
  have na1 : noAl (ts ++ [x, y, z]) := fun d hd => (List.mem_append.mp hd).elim (na d) fun q => by
    rcases List.mem_cons.mp q with q | q
    · rw [q]; exact hx
    · rcases List.mem_cons.mp q with q | q
      · rw [q]; exact hy
      · rcases List.mem_cons.mp q with q | q
        · rw [q]; exact hz
        · exact absurd q List.not_mem_nil
  have R2 := (R.store hm hq na1).store3 hi hj hl hx hy hz na hij hil hjl
  rw [List.set_comm _ _ him.symm, List.set_comm _ _ hjm.symm, List.set_comm _ _ hlm.symm, List.set_comm _ _ him.symm, List.set_comm _ _ hjm.symm, List.set_comm _ _ hlm.symm] at R2
  exact R2
end
@[simp] def nPar4 (i j l m : Nat) (a : Dn (List D)) : Sn := fun env => (a env).out fun ds e => match ds with
  | [x, y, z, w] => .nx ((((e.set i x).set j y).set l z).set m w)
  | _ => .no
section
variable {X : Cx} {W : WX} {P : List Nat} {x y z t : Str} {a b c d : Expr} {px py pz pw pt pos : Pos} {kt k2 : Nat} {pt2 : Pos} {da : Dn (List D)}
theorem gs_parC4 (i j l m : Nat) (hc : X.calm = true) (hN : X.N.Nodup) (ha : GAU X W [a, b, c, d] da) (hi : X.N[i]? = some x := by rfl) (hj : X.N[j]? = some y := by rfl) (hl : X.N[l]? = some z := by rfl) (hm : X.N[m]? = some t := by rfl) (hij : i ≠ j := by decide) (hil : i ≠ l := by decide) (hjl : j ≠ l := by decide) (him : i ≠ m := by decide) (hjm : j ≠ m := by decide) (hlm : l ≠ m := by decide)
    (hx : Loc X.env.scope x := by first | exact Or.inl rfl | exact Or.inr rfl) (hy : Loc X.env.scope y := by first | exact Or.inl rfl | exact Or.inr rfl) (hz : Loc X.env.scope z := by first | exact Or.inl rfl | exact Or.inr rfl) (ht : Loc X.env.scope t := by first | exact Or.inl rfl | exact Or.inr rfl) (hpi : P.contains i = false := by rfl) (hpj : P.contains j = false := by rfl) (hpl : P.contains l = false := by rfl) (hpm : P.contains m = false := by rfl)
    (hfx : X.fn x = true ∨ X.env.scope.names.lookup x = some .local := by first | exact .inl rfl | exact .inr rfl) (hfy : X.fn y = true ∨ X.env.scope.names.lookup y = some .local := by first | exact .inl rfl | exact .inr rfl) (hfz : X.fn z = true ∨ X.env.scope.names.lookup z = some .local := by first | exact .inl rfl | exact .inr rfl) (hft : X.fn t = true ∨ X.env.scope.names.lookup t = some .local := by first | exact .inl rfl | exact .inr rfl)
    (hw : swappedStores [.Tuple [.Name x px, .Name y py, .Name z pz, .Name t pw] kt pt] (.Tuple [a, b, c, d] k2 pt2) X.env = pure none := by rfl)
    (hs : swapsWithSole [.Tuple [.Name x px, .Name y py, .Name z pz, .Name t pw] kt pt] (.Tuple [a, b, c, d] k2 pt2) pos.line X.env = pure false := by rfl) :
    GS X W P (.Assign [.Tuple [.Name x px, .Name y py, .Name z pz, .Name t pw] kt pt] (.Tuple [a, b, c, d] k2 pt2) pos) (nPar4 i j l m da) := by
  refine PS.imp (ps_asg (pe_tup ha) (pg_tup (n := 4) hc (pgs_cons (pg_name hN hi hx hfx) (pgs_cons (pg_name hN hj hy hfy) (pgs_cons (pg_name hN hl hz hfz) (pgs_cons (pg_name hN hm ht hft) pgs_nil))))) hs hw) fun T σ H ⟨B, F, env, ts, vs, hpp, na, R, q⟩ => ?_
  refine ⟨B, F, env, ts, vs, R, (ResP.out q).mono (fun ds e1 q1 ws H1 F1 hlw nl R1 => ?_) fun _ _ _ _ z => z⟩
  match ds, ws, hlw, q1 with
  | [u, w, r, g], [u1, w1, r1, g1], _, q1 =>
    refine ⟨(show 4 ≤ sizeLine by decide), fun p hp => ⟨p, [u1, w1, r1, g1], rfl, Or.inl (Or.inl upd_same), rfl, u1, [w1, r1, g1], rfl, w1, [r1, g1], rfl, r1, [g1], rfl, g1, [], rfl, rfl, ?_⟩⟩
    have R2 : RE X.K X.mg B σ (upd H1 p (.tup [u1, w1, r1, g1])) F1 e1 (ts ++ [u, w, r, g]) (vs ++ [u1, w1, r1, g1]) := let ⟨ow, r⟩ := R1; ⟨ow, r.newH hp⟩
    exact q1 _ _ F1 (R2.store4 (pin_ne hpp hpi) (pin_ne hpp hpj) (pin_ne hpp hpl) (pin_ne hpp hpm) (nl u (by simp)) (nl w (by simp)) (nl r (by simp)) (nl g (by simp)) na hij hil hjl him hjm hlm)
  | [], _, _, q1 => exact q1.elim
  | [_], _, _, q1 => exact q1.elim
  | [_, _], _, _, q1 => exact q1.elim
  | [_, _, _], _, _, q1 => exact q1.elim
  | _ :: _ :: _ :: _ :: _ :: _, _, _, q1 => exact q1.elim
end
end DL
set_option Elab.async false
set_option linter.all false
set_option maxRecDepth 100000
set_option maxHeartbeats 400000
/-! DRa: lists of pairs of ints as dicts: plain facts. -/
namespace DL
abbrev PL := List (Int × Int)
def keysI (m : PL) : List Int := m.map (·.1)
def Nk (m : PL) : Prop := (keysI m).Nodup
def lkI : PL → Int → Option Int
  | [], _ => none
  | p :: m, k => if p.1 = k then some p.2 else lkI m k
def totI (m : PL) : Int := (m.map (·.2)).sum
def canI (m : PL) : PL := m.mergeSort lexLe
def posI (m : PL) : PL := m.filter fun p => decide (0 < p.2)
theorem mem_keys {m : PL} {k : Int} : k ∈ keysI m ↔ ∃ v, (k, v) ∈ m := by
  unfold keysI
  rw [List.mem_map]
  constructor
  · rintro ⟨⟨a, b⟩, h, rfl⟩; exact ⟨b, h⟩
  · rintro ⟨v, h⟩; exact ⟨(k, v), h, rfl⟩
theorem keys_cons {p : Int × Int} {m : PL} : keysI (p :: m) = p.1 :: keysI m := rfl
theorem Nk.cons {p : Int × Int} {m : PL} : Nk (p :: m) ↔ p.1 ∉ keysI m ∧ Nk m := by
  unfold Nk
  rw [keys_cons, List.nodup_cons]
theorem Nk.nil : Nk [] := List.nodup_nil
theorem lkI_none : ∀ {m : PL} {k : Int}, lkI m k = none ↔ k ∉ keysI m
  | [], k => by unfold lkI keysI; simp
  | p :: m, k => by
    unfold lkI
    rw [keys_cons, List.mem_cons]
    by_cases h : p.1 = k
    · rw [if_pos h]; simp [h]
    · rw [if_neg h, lkI_none]
      constructor
      · rintro h1 (h2 | h2)
        · exact h h2.symm
        · exact h1 h2
      · exact fun h1 h2 => h1 (.inr h2)
theorem lk_mem : ∀ {m : PL} {k v : Int}, Nk m → (lkI m k = some v ↔ (k, v) ∈ m)
  | [], k, v, _ => by unfold lkI; simp
  | p :: m, k, v, hn => by
    obtain ⟨h1, h2⟩ := Nk.cons.mp hn
    unfold lkI
    rw [List.mem_cons]
    by_cases h : p.1 = k
    · rw [if_pos h]
      constructor
      · intro e; cases e; left; rw [← h]
      · rintro (e | e)
        · rw [← e]
        · exact absurd (mem_keys.mpr ⟨v, h ▸ e⟩) h1
    · rw [if_neg h, lk_mem h2]
      constructor
      · exact .inr
      · rintro (e | e)
        · exact absurd (by rw [← e]) h
        · exact e
theorem lk_some_mem : ∀ {m : PL} {k v : Int}, lkI m k = some v → (k, v) ∈ m
  | p :: m, k, v, h => by
    unfold lkI at h
    split at h
    · rename_i e; cases h; rw [← e]; exact List.mem_cons_self
    · exact List.mem_cons_of_mem _ (lk_some_mem h)
theorem nodup_of {m : PL} (h : Nk m) : m.Nodup := by
  unfold Nk keysI List.Nodup at h
  rw [List.pairwise_map] at h
  exact h.imp fun hab e => hab (by rw [e])
/-- put, by recursion -/
def putR : PL → Int × Int → PL
  | [], p => [p]
  | q :: m, p => if q.1 = p.1 then (q.1, p.2) :: m else q :: putR m p
theorem put_map_id : ∀ {m : PL} {p : Int × Int}, p.1 ∉ keysI m → m.map (fun q => if q.1 = p.1 then (q.1, p.2) else q) = m
  | [], _, _ => rfl
  | q :: m, p, h => by
    rw [keys_cons, List.mem_cons, not_or] at h
    rw [List.map_cons, if_neg (fun e => h.1 e.symm), put_map_id h.2]
theorem putI_any {m : PL} {p : Int × Int} : (m.any fun q => decide (q.1 = p.1)) = true ↔ p.1 ∈ keysI m := by
  rw [List.any_eq_true]
  constructor
  · rintro ⟨q, h1, h2⟩
    exact List.mem_map.mpr ⟨q, h1, of_decide_eq_true h2⟩
  · intro h
    obtain ⟨q, h1, h2⟩ := List.mem_map.mp h
    exact ⟨q, h1, decide_eq_true h2⟩
theorem putI_new {m : PL} {p : Int × Int} (h : p.1 ∉ keysI m) : putI m p = m ++ [p] := by
  unfold putI
  rw [if_neg fun z => h (putI_any.mp z)]
theorem putI_R : ∀ {m : PL} {p : Int × Int}, Nk m → putI m p = putR m p
  | [], p, _ => rfl
  | q :: m, p, hn => by
    obtain ⟨h1, h2⟩ := Nk.cons.mp hn
    unfold putR
    by_cases h : q.1 = p.1
    · rw [if_pos h]
      unfold putI
      rw [if_pos (putI_any.mpr (by rw [keys_cons, h]; exact List.mem_cons_self)), List.map_cons, if_pos h, put_map_id (h ▸ h1)]
    · rw [if_neg h, ← putI_R h2]
      unfold putI
      have e : ((q :: m).any fun q => decide (q.1 = p.1)) = (m.any fun q => decide (q.1 = p.1)) := by
        rw [List.any_cons, decide_eq_false h, Bool.false_or]
      rw [e]
      split
      · rw [List.map_cons, if_neg h]
      · rfl
theorem lk_putR : ∀ {m : PL} {p : Int × Int} {k : Int}, lkI (putR m p) k = if p.1 = k then some p.2 else lkI m k
  | [], p, k => rfl
  | q :: m, p, k => by
    unfold putR
    by_cases h : q.1 = p.1
    · rw [if_pos h]
      unfold lkI
      by_cases h2 : p.1 = k
      · rw [if_pos h2, if_pos (by rw [← h2]; exact h)]
      · rw [if_neg h2, if_neg (by rw [h]; exact h2)]
        conv => rhs; rw [if_neg (by rw [h]; exact h2)]
    · rw [if_neg h]
      unfold lkI
      rw [lk_putR]
      by_cases h2 : q.1 = k
      · rw [if_pos h2, if_pos h2, if_neg (by rw [← h2]; exact fun z => h z.symm)]
      · rw [if_neg h2, if_neg h2]
theorem lk_put {m : PL} {p : Int × Int} {k : Int} (h : Nk m) : lkI (putI m p) k = if p.1 = k then some p.2 else lkI m k := by rw [putI_R h, lk_putR]
theorem mem_keys_putR : ∀ {m : PL} {p : Int × Int} {k : Int}, k ∈ keysI (putR m p) ↔ k = p.1 ∨ k ∈ keysI m
  | [], p, k => by unfold putR keysI; simp
  | q :: m, p, k => by
    unfold putR
    by_cases h : q.1 = p.1
    · rw [if_pos h, keys_cons, keys_cons]
      show k ∈ q.1 :: keysI m ↔ k = p.1 ∨ k ∈ q.1 :: keysI m
      rw [List.mem_cons]
      show k = q.1 ∨ k ∈ keysI m ↔ k = p.1 ∨ k = q.1 ∨ k ∈ keysI m
      rw [h]
      constructor
      · rintro (h | h); exact .inl h; exact .inr (.inr h)
      · rintro (h | h | h); exact .inl h; exact .inl h; exact .inr h
    · rw [if_neg h, keys_cons, keys_cons, List.mem_cons, List.mem_cons, mem_keys_putR]
      constructor
      · rintro (h | h | h); exact .inr (.inl h); exact .inl h; exact .inr (.inr h)
      · rintro (h | h | h); exact .inr (.inl h); exact .inl h; exact .inr (.inr h)
theorem Nk_putR : ∀ {m : PL} {p : Int × Int}, Nk m → Nk (putR m p)
  | [], p, _ => by unfold putR Nk keysI; simp
  | q :: m, p, hn => by
    obtain ⟨h1, h2⟩ := Nk.cons.mp hn
    unfold putR
    by_cases h : q.1 = p.1
    · rw [if_pos h]; exact Nk.cons.mpr ⟨h1, h2⟩
    · rw [if_neg h]
      refine Nk.cons.mpr ⟨fun z => ?_, Nk_putR h2⟩
      rcases mem_keys_putR.mp z with z | z
      · exact h z
      · exact h1 z
theorem Nk_put {m : PL} {p : Int × Int} (h : Nk m) : Nk (putI m p) := by rw [putI_R h]; exact Nk_putR h
theorem mem_keys_put {m : PL} {p : Int × Int} {k : Int} (h : Nk m) : k ∈ keysI (putI m p) ↔ k = p.1 ∨ k ∈ keysI m := by rw [putI_R h]; exact mem_keys_putR
theorem tot_cons {p : Int × Int} {m : PL} : totI (p :: m) = p.2 + totI m := by unfold totI; rw [List.map_cons, List.sum_cons]
theorem tot_putR : ∀ {m : PL} {p : Int × Int}, totI (putR m p) = totI m - (lkI m p.1).getD 0 + p.2
  | [], p => by unfold putR lkI totI; simp
  | q :: m, p => by
    unfold putR lkI
    by_cases h : q.1 = p.1
    · rw [if_pos h, if_pos h, tot_cons, tot_cons]
      show p.2 + totI m = q.2 + totI m - q.2 + p.2
      omega
    · rw [if_neg h, if_neg h, tot_cons, tot_cons, tot_putR]
      omega
theorem tot_put {m : PL} {p : Int × Int} (h : Nk m) : totI (putI m p) = totI m - (lkI m p.1).getD 0 + p.2 := by rw [putI_R h, tot_putR]
theorem len_putR : ∀ {m : PL} {p : Int × Int}, (putR m p).length ≤ m.length + 1
  | [], p => by unfold putR; simp
  | q :: m, p => by
    unfold putR
    split
    · simp
    · have := len_putR (m := m) (p := p)
      simp only [List.length_cons]; omega
theorem len_put {m : PL} {p : Int × Int} (h : Nk m) : (putI m p).length ≤ m.length + 1 := by rw [putI_R h]; exact len_putR
/-! ### merge -/
theorem merge_disj : ∀ {m a : PL}, Nk m → (∀ k ∈ keysI m, k ∉ keysI a) → mergeI a m = a ++ m
  | [], a, _, _ => by rw [List.append_nil]; rfl
  | p :: m, a, hn, hd => by
    obtain ⟨h1, h2⟩ := Nk.cons.mp hn
    show mergeI (putI a p) m = _
    rw [putI_new (hd p.1 (by rw [keys_cons]; exact List.mem_cons_self)), merge_disj h2, List.append_assoc]
    · rfl
    · intro k hk
      unfold keysI
      rw [List.map_append, List.mem_append, not_or]
      refine ⟨hd k (by rw [keys_cons]; exact List.mem_cons_of_mem _ hk), ?_⟩
      simp only [List.map_cons, List.map_nil, List.mem_singleton]
      exact fun e => h1 (e ▸ hk)
theorem merge_nil {m : PL} (h : Nk m) : mergeI [] m = m := merge_disj h fun k _ z => absurd z List.not_mem_nil
theorem Nk_merge : ∀ {m a : PL}, Nk a → Nk (mergeI a m)
  | [], _, h => h
  | p :: m, a, h => Nk_merge (m := m) (Nk_put h)
/-! ### sorted -/
theorem can_perm (m : PL) : (canI m).Perm m := List.mergeSort_perm m _
theorem keys_perm {a b : PL} (h : a.Perm b) : (keysI a).Perm (keysI b) := h.map _
theorem Nk_can {m : PL} (h : Nk m) : Nk (canI m) := (keys_perm (can_perm m)).nodup_iff.mpr h
theorem mem_can {m : PL} {p : Int × Int} : p ∈ canI m ↔ p ∈ m := (can_perm m).mem_iff
theorem lk_perm {a b : PL} (h : a.Perm b) (ha : Nk a) (k : Int) : lkI a k = lkI b k := by
  have hb : Nk b := (keys_perm h).nodup_iff.mp ha
  cases e : lkI a k with
  | none =>
    symm
    rw [lkI_none] at e ⊢
    exact fun z => e ((keys_perm h).mem_iff.mpr z)
  | some v =>
    symm
    rw [lk_mem ha] at e
    rw [lk_mem hb]
    exact h.mem_iff.mp e
theorem lk_can {m : PL} (h : Nk m) (k : Int) : lkI (canI m) k = lkI m k := lk_perm (can_perm m) (Nk_can h) k
theorem tot_perm {a b : PL} (h : a.Perm b) : totI a = totI b := by
  induction h with
  | nil => rfl
  | cons x _ ih => rw [tot_cons, tot_cons, ih]
  | swap x y l => rw [tot_cons, tot_cons, tot_cons, tot_cons]; omega
  | trans _ _ h1 h2 => rw [h1, h2]
theorem tot_can {m : PL} : totI (canI m) = totI m := tot_perm (can_perm m)
def Asc (m : PL) : Prop := m.Pairwise fun a b => a.1 < b.1
theorem Asc.nk {m : PL} (h : Asc m) : Nk m := by
  unfold Nk keysI List.Nodup
  rw [List.pairwise_map]
  exact h.imp fun h e => by omega
theorem can_asc {m : PL} (h : Nk m) : Asc (canI m) := by
  have w2 : (m.mergeSort lexLe).Pairwise (fun a b => lexLe a b = true) := List.pairwise_mergeSort (fun a b c h1 h2 => by rw [lexLe_iff] at *; omega) (fun a b => by rw [Bool.or_eq_true, lexLe_iff, lexLe_iff]; omega) m
  have n : Nk (canI m) := Nk_can h
  unfold Nk keysI List.Nodup at n
  rw [List.pairwise_map] at n
  refine (w2.and n).imp fun {a b} hab => ?_
  obtain ⟨h1, h2⟩ := hab
  rw [lexLe_iff] at h1
  omega
theorem can_of_asc {m : PL} (h : Asc m) : canI m = m := List.mergeSort_of_pairwise (h.imp fun h => lexLe_iff.mpr (.inl h))
theorem can_can {m : PL} (h : Nk m) : canI (canI m) = canI m := can_of_asc (can_asc h)
theorem can_ext {a b : PL} (ha : Nk a) (hb : Nk b) (h : ∀ k, lkI a k = lkI b k) : canI a = canI b := by
  have p : a.Perm b := (List.perm_ext_iff_of_nodup (nodup_of ha) (nodup_of hb)).mpr fun ⟨k, v⟩ => by rw [← lk_mem ha, ← lk_mem hb, h]
  unfold canI
  have p2 : (a.mergeSort lexLe).Perm b := (List.mergeSort_perm a lexLe).trans p
  exact lexLe_sort p2 (List.pairwise_mergeSort (fun a b c h1 h2 => by rw [lexLe_iff] at *; omega) (fun a b => by rw [Bool.or_eq_true, lexLe_iff, lexLe_iff]; omega) a)
theorem keys_can {m : PL} (h : Nk m) : keysI (canI m) = (keysI m).mergeSort (· ≤ ·) := by
  have p : (keysI (canI m)).Perm ((keysI m).mergeSort (· ≤ ·)) := (keys_perm (can_perm m)).trans (List.mergeSort_perm _ _).symm
  have s1 : (keysI (canI m)).Pairwise (fun a b : Int => a ≤ b) := by
    unfold keysI
    rw [List.pairwise_map]
    exact (can_asc h).imp fun h => Int.le_of_lt h
  have s2 : ((keysI m).mergeSort (· ≤ ·)).Pairwise (fun a b : Int => a ≤ b) := (List.pairwise_mergeSort (le := fun a b : Int => decide (a ≤ b)) (fun a b c h1 h2 => by simp only [decide_eq_true_eq] at *; omega) (fun a b => by simp only [Bool.or_eq_true, decide_eq_true_eq]; omega) (keysI m)).imp fun h => by simpa using h
  exact p.eq_of_pairwise (le := fun a b : Int => a ≤ b) (fun a b _ _ h1 h2 => by omega) s1 s2
/-- the pairs by sorted keys -/
theorem bld_can {m : PL} (h : Nk m) : ((keysI m).mergeSort (· ≤ ·)).map (fun k => (k, (lkI m k).getD 0)) = canI m := by
  rw [← keys_can h]
  unfold keysI
  rw [List.map_map]
  have e : ∀ p ∈ canI m, ((fun k => (k, (lkI m k).getD 0)) ∘ fun q : Int × Int => q.1) p = p := fun p hp => by
    have := (lk_mem (m := m) (k := p.1) (v := p.2) h).mpr (mem_can.mp hp)
    show (p.1, (lkI m p.1).getD 0) = p
    rw [this]; rfl
  rw [List.map_congr_left (g := id) e, List.map_id]
/-! ### positive ones -/
theorem Nk_filter {m : PL} {f : Int × Int → Bool} (h : Nk m) : Nk (m.filter f) := by
  unfold Nk keysI List.Nodup at *
  rw [List.pairwise_map] at *
  exact h.filter f
theorem Nk_pos {m : PL} (h : Nk m) : Nk (posI m) := Nk_filter h
theorem can_pos {m : PL} (h : Nk m) : canI (posI m) = posI (canI m) := by
  have p : (posI (canI m)).Perm (posI m) := (can_perm m).filter _
  have a : Asc (posI (canI m)) := (can_asc h).filter _
  have e := can_of_asc a
  rw [← e]
  exact (can_ext a.nk (Nk_pos h) fun k => lk_perm p a.nk k).symm
theorem tot_pos : ∀ {m : PL}, (∀ p ∈ m, 0 ≤ p.2) → totI (posI m) = totI m
  | [], _ => rfl
  | p :: m, h => by
    have h1 := h p List.mem_cons_self
    have ih := tot_pos (m := m) fun q hq => h q (List.mem_cons_of_mem _ hq)
    unfold posI at ih ⊢
    by_cases c : 0 < p.2
    · rw [List.filter_cons_of_pos (by simpa using c), tot_cons, tot_cons, ih]
    · rw [List.filter_cons_of_neg (by simpa using c), tot_cons, ih]; omega
theorem lk_pos : ∀ {m : PL} {k : Int}, Nk m → lkI (posI m) k = (lkI m k).bind fun v => if 0 < v then some v else none := by
  intro m k h
  cases e : lkI m k with
  | none =>
    rw [lkI_none] at e
    show _ = none
    rw [lkI_none]
    intro z
    obtain ⟨v, hv⟩ := mem_keys.mp z
    exact e (mem_keys.mpr ⟨v, (List.mem_filter.mp hv).1⟩)
  | some v =>
    rw [lk_mem h] at e
    show _ = if 0 < v then some v else none
    by_cases c : 0 < v
    · rw [if_pos c, lk_mem (Nk_pos h)]
      exact List.mem_filter.mpr ⟨e, by simpa using c⟩
    · rw [if_neg c, lkI_none]
      intro z
      obtain ⟨u, hu⟩ := mem_keys.mp z
      obtain ⟨h1, h2⟩ := List.mem_filter.mp hu
      have : u = v := by
        have := (lk_mem h).mpr h1
        rw [(lk_mem h).mpr e] at this
        exact (Option.some.inj this).symm
      subst this
      exact c (by simpa using h2)
/-! ### different ones -/
theorem dedup_step : ∀ {ns acc : List Int}, (acc ++ ns).Nodup → ns.foldl PyProof.Rows.step_dedup acc = acc ++ ns
  | [], acc, _ => by rw [List.append_nil]; rfl
  | n :: ns, acc, h => by
    have hn : n ∉ acc := fun z => by
      rw [List.nodup_append] at h
      exact h.2.2 n z n List.mem_cons_self rfl
    have e : PyProof.Rows.step_dedup acc n = acc ++ [n] := by
      unfold PyProof.Rows.step_dedup
      rw [if_neg]
      rw [List.any_eq_true]
      rintro ⟨x, hx, h2⟩
      exact hn (by rw [← eq_of_beq h2]; exact hx)
    rw [List.foldl_cons, e, dedup_step (by rw [List.append_assoc]; exact h), List.append_assoc]
    rfl
theorem dedup_id {ns : List Int} (h : ns.Nodup) : dedupI ns = ns := by
  unfold dedupI
  rw [dedup_step (by rw [List.nil_append]; exact h), List.nil_append]
end DL
set_option Elab.async false
set_option linter.all false
set_option maxRecDepth 100000
set_option maxHeartbeats 4000000
/-! DS1: printed by gen.py, share.py: denotations that several laws have. -/
namespace DL
open PySem L2
noncomputable section
abbrev o_Row : List (Str × Bool) := [("Row", true)]
abbrev p_Row : List String := ["NoneType", "bool", "int", "str", "list", "tuple", "dict"]
def c_are_pairs_1 : Dn D := dLc [1] (itAny (dVar 0)) (tgName 1) (dYes) (dB (dAnd (dTest (dUn (fIsi "tuple") (dVar 1))) (dTest (dOp fEqA (dCall fLenA (dCons (dVar 1) (dNil))) (dC (.int 2))))))
def c_are_pairs_2 : Dn D := dLc [2, 3] (itAny (dVar 0)) (tgTup [tgName 2, tgName 3]) (dYes) (dB (dAnd (dTest (dFn 1 f_is_integer [] (dCons (dVar 2) (dNil)))) (dTest (dFn 1 f_is_integer [] (dCons (dVar 3) (dNil))))))
def c_are_pairs_3 : Dn D := dLc [2, 3] (itAny (dVar 0)) (tgTup [tgName 2, tgName 3]) (dYes) (dVar 2)
def b_are_pairs : Sn := nSeq (nIf (dNot (dTest (dUn (fIsiT ["list", "tuple"]) (dVar 0))))
  (nRet (dC (.bl false)))
  (nSkip))
  (nSeq (nIf (dNot (dTest (dCall fAll (dCons (c_are_pairs_1) (dNil)))))
  (nRet (dC (.bl false)))
  (nSkip))
  (nSeq (nIf (dNot (dTest (dCall fAll (dCons (c_are_pairs_2) (dNil)))))
  (nRet (dC (.bl false)))
  (nSkip))
  (nRet (dOp fEqA (dUn fLenSet (c_are_pairs_3)) (dCall fLenA (dCons (dVar 0) (dNil)))))))
def f_are_pairs : List D → FR := fdOf [0] 4 b_are_pairs
def b_are_capacities_1 : Sn := nIf (dOr (dNot (dTest (dFn 1 f_are_pairs [] (dCons (dVar 0) (dNil))))) (dTest (dOp fGt (dCall fLenA (dCons (dVar 0) (dNil))) (dC (.int 6)))))
  (nRet (dC (.bl false)))
  (nSkip)
def b_are_capacities_2_1 : Sn := nIf (dOr (dNot (dTest (dFn 3 f_is_between [] (dCons (dVar 1) (dCons (dUn fNeg (dC (.int 60))) (dCons (dC (.int 60)) (dNil))))))) (dNot (dTest (dFn 3 f_is_between [] (dCons (dVar 2) (dCons (dC (.int 2)) (dCons (dC (.int 9)) (dNil))))))))
  (nRet (dC (.bl false)))
  (nSkip)
def b_are_capacities_2_b : Sn := b_are_capacities_2_1
def b_are_capacities_2 : Sn := nFor (itAny (dVar 0)) (tgTup [tgName 1, tgName 2])
  (b_are_capacities_2_b)
def b_are_capacities_3 : Sn := nRet (dC (.bl true))
def b_are_capacities : Sn := nSeq b_are_capacities_1 (nSeq b_are_capacities_2 (b_are_capacities_3))
def f_are_capacities : List D → FR := fdOf [0] 3 b_are_capacities
def b_are_contents_1 : Sn := nIf (dNot (dTest (dFn 1 f_are_pairs [] (dCons (dVar 0) (dNil)))))
  (nRet (dC (.bl false)))
  (nSkip)
def b_are_contents_2 : Sn := nAsg 2 (dCall fDictA (dCons (dCall fList (dCons (dVar 1) (dNil))) (dNil)))
def b_are_contents_3_1 : Sn := nIf (dNot (dChain fLe fLe (dC (.int 1)) (dVar 4) (dGet2 (dVar 2) (dVar 3) (dC (.int 1)))))
  (nRet (dC (.bl false)))
  (nSkip)
def b_are_contents_3_b : Sn := b_are_contents_3_1
def b_are_contents_3 : Sn := nFor (itAny (dVar 0)) (tgTup [tgName 3, tgName 4])
  (b_are_contents_3_b)
def c_are_contents_1 : Dn D := dLc [3, 4] (itAny (dVar 0)) (tgTup [tgName 3, tgName 4]) (dYes) (dVar 4)
def b_are_contents_4 : Sn := nRet (dOp fLe (dCall fSumA (dCons (c_are_contents_1) (dNil))) (dC (.int 40)))
def b_are_contents : Sn := nSeq b_are_contents_1 (nSeq b_are_contents_2 (nSeq b_are_contents_3 (b_are_contents_4)))
def f_are_contents : List D → FR := fdOf [0, 1] 5 b_are_contents
def b_Row_init : Sn := nSeq (nIf (dNot (dTest (dFn 1 f_are_capacities [] (dCons (dVar 2) (dNil)))))
  (nRaiseM (dEx1 "BadRow" "field" (dC (.str "capacities"))))
  (nSkip))
  (nSeq (nIf (dNot (dTest (dFn 2 f_are_contents [] (dCons (dVar 1) (dCons (dVar 2) (dNil))))))
  (nRaiseM (dEx1 "BadRow" "field" (dC (.str "contents"))))
  (nSkip))
  (nSeq (nFput "Row" "r_counts" (dCall fDictA (dCons (dCall fSortA (dCons (dVar 1) (dNil))) (dNil))) (dVar 0))
  (nFput "Row" "r_sizes" (dCall fDictA (dCons (dCall fSortA (dCons (dVar 2) (dNil))) (dNil))) (dVar 0))))
def f_Row_init : List D → FR := fdOf [0, 1, 2] 3 b_Row_init
def b_Row_contents : Sn := nRet (dCall fTuple (dCons (dItems (dUn (fFld "Row" "r_counts") (dVar 0))) (dNil)))
def f_Row_contents : List D → FR := fdOf [0] 1 b_Row_contents
def b_Row_capacities : Sn := nRet (dCall fTuple (dCons (dItems (dUn (fFld "Row" "r_sizes") (dVar 0))) (dNil)))
def f_Row_capacities : List D → FR := fdOf [0] 1 b_Row_capacities
def b_Row_held : Sn := nSeq (nIf (dNot (dTest (dFn 1 f_is_integer [] (dCons (dVar 1) (dNil)))))
  (nRaise "BadIndex")
  (nSkip))
  (nRet (dGet2 (dUn (fFld "Row" "r_counts") (dVar 0)) (dVar 1) (dC (.int 0))))
def f_Row_held : List D → FR := fdOf [0, 1] 2 b_Row_held
def b_Row_capacity : Sn := nSeq (nIf (dNot (dTest (dFn 1 f_is_integer [] (dCons (dVar 1) (dNil)))))
  (nRaise "BadIndex")
  (nSkip))
  (nRet (dGet2 (dUn (fFld "Row" "r_sizes") (dVar 0)) (dVar 1) (dC (.int 1))))
def f_Row_capacity : List D → FR := fdOf [0, 1] 2 b_Row_capacity
def c_Row_total_1 : Dn D := dLc [1, 2] (itAny (dProp "Row" f_Row_contents (dVar 0))) (tgTup [tgName 1, tgName 2]) (dYes) (dVar 2)
def b_Row_total : Sn := nRet (dCall fSumA (dCons (c_Row_total_1) (dNil)))
def f_Row_total : List D → FR := fdOf [0] 3 b_Row_total
def b_Row_eq : Sn := nRet (dB (dAnd (dTest (dUn (fIsO [] o_Row p_Row) (dVar 1))) (dAnd (dTest (dOp fEqA (dProp "Row" f_Row_contents (dVar 0)) (dProp "Row" f_Row_contents (dVar 1)))) (dTest (dOp fEqA (dProp "Row" f_Row_capacities (dVar 0)) (dProp "Row" f_Row_capacities (dVar 1)))))))
def f_Row_eq : List D → FR := fdOf [0, 1] 2 b_Row_eq
def c_row_with_1 : Dn D := dLc [2, 3] (itItems (dVar 0)) (tgTup [tgName 2, tgName 3]) (dTest (dOp fGt (dVar 3) (dC (.int 0)))) (dTup (dCons (dU (dVar 2)) (dCons (dU (dVar 3)) (dNil))))
def b_row_with : Sn := nRet (dFz (dU (dMk "Row" 3 f_Row_init [] (dCons (c_row_with_1) (dCons (dVar 1) (dNil))))))
def f_row_with : List D → FR := fdOf [0, 1] 4 b_row_with
def b_counts_of : Sn := nRet (dCall fDictA (dCons (dCall fList (dCons (dProp "Row" f_Row_contents (dVar 0)) (dNil))) (dNil)))
def f_counts_of : List D → FR := fdOf [0] 1 b_counts_of
def b_need_capacity : Sn := nIf (dNot (dTest (dFn 3 f_is_between [] (dCons (dVar 0) (dCons (dC (.int 1)) (dCons (dC (.int 99)) (dNil)))))))
  (nRaise "BadCapacity")
  (nSkip)
def f_need_capacity : List D → FR := fdOf [0] 1 b_need_capacity
def c_steps_along_1 : Dn D := dLc [10, 7] (itAny (dProp "Row" f_Row_contents (dVar 0))) (tgTup [tgName 10, tgName 7]) (dYes) (dOp fMul (dVar 2) (dVar 10))
def b_steps_along_1 : Sn := nAsg 3 (dCall fSortA (dCons (c_steps_along_1) (dNil)))
def b_steps_along_2 : Sn := nPar3 4 5 6 (dCons (dU (dLst (dNil))) (dCons (dU (dC (.int 0))) (dCons (dU (dC (.int 0))) (dNil))))
def b_steps_along_3_1 : Sn := nIf (dTest (dOp fEqA (dVar 5) (dC (.int 0))))
  (nAsg 6 (dOp fMul (dVar 2) (dOp fIx (dVar 3) (dC (.int 0)))))
  (nSkip)
def b_steps_along_3_2 : Sn := nIf (dAnd (dTest (dOp fNeA (dVar 3) (dLst (dNil)))) (dTest (dOp fEqA (dOp fIx (dVar 3) (dC (.int 0))) (dOp fMul (dVar 2) (dVar 6)))))
  (nAsg 3 (dOp fSlL (dVar 3) (dC (.int 1))))
  (nSkip)
def b_steps_along_3_3 : Sn := nAsg 7 (dMethO "Row" "held" 2 f_Row_held [] (dVar 0) (dCons (dVar 6) (dNil)))
def b_steps_along_3_4 : Sn := nAsgT (tgTup [tgName 8, tgName 9]) (dFn 4 f_passage [] (dCons (dVar 1) (dCons (dVar 5) (dCons (dMethO "Row" "capacity" 2 f_Row_capacity [] (dVar 0) (dCons (dVar 6) (dNil))) (dCons (dVar 7) (dNil))))))
def b_steps_along_3_5 : Sn := nDrop (dMeth isL mAppend (dVar 4) (dCons (dU (dTup (dCons (dU (dVar 6)) (dCons (dU (dVar 5)) (dCons (dU (dVar 7)) (dCons (dU (dVar 9)) (dCons (dU (dVar 8)) (dNil)))))))) (dNil)))
def b_steps_along_3_6 : Sn := nPar 5 6 (dCons (dU (dVar 9)) (dCons (dU (dOp fAdd (dVar 6) (dVar 2))) (dNil)))
def b_steps_along_3_b : Sn := nSeq b_steps_along_3_1 (nSeq b_steps_along_3_2 (nSeq b_steps_along_3_3 (nSeq b_steps_along_3_4 (nSeq b_steps_along_3_5 (b_steps_along_3_6)))))
def b_steps_along_3 : Sn := whileD (dOr (dTest (dOp fGt (dVar 5) (dC (.int 0)))) (dTest (dOp fNeA (dVar 3) (dLst (dNil)))))
  (b_steps_along_3_b)
def b_steps_along_4 : Sn := nRet (dVar 4)
def b_steps_along : Sn := nSeq b_steps_along_1 (nSeq b_steps_along_2 (nSeq b_steps_along_3 (b_steps_along_4)))
def f_steps_along : List D → FR := fdOf [0, 1, 2] 11 b_steps_along
def b_row_after_1 : Sn := nAsg 2 (dFn 1 f_counts_of [] (dCons (dVar 0) (dNil)))
def b_row_after_2_1 : Sn := nDput (dVar 7) (dVar 2) (dVar 3)
def b_row_after_2_b : Sn := b_row_after_2_1
def b_row_after_2 : Sn := nFor (itAny (dVar 1)) (tgTup [tgName 3, tgName 4, tgName 5, tgName 6, tgName 7])
  (b_row_after_2_b)
def b_row_after_3 : Sn := nRet (dFn 2 f_row_with [] (dCons (dVar 2) (dCons (dProp "Row" f_Row_capacities (dVar 0)) (dNil))))
def b_row_after : Sn := nSeq b_row_after_1 (nSeq b_row_after_2 (b_row_after_3))
def f_row_after : List D → FR := fdOf [0, 1] 8 b_row_after
def b_sweep : Sn := nSeq (nDrop (dFn 1 f_need_capacity [] (dCons (dVar 1) (dNil))))
  (nRet (dFn 2 f_row_after [] (dCons (dVar 0) (dCons (dFn 3 f_steps_along [] (dCons (dVar 0) (dCons (dVar 1) (dCons (dC (.int 1)) (dNil))))) (dNil)))))
def f_sweep : List D → FR := fdOf [0, 1] 2 b_sweep
def c_picked_1 : Dn D := dLc [2] (itAny (dFn 3 f_steps_along [] (dCons (dVar 0) (dCons (dVar 1) (dCons (dC (.int 1)) (dNil)))))) (tgName 2) (dYes) (dCall fMin2 (dCons (dOp fSub (dVar 1) (dOp fIx (dVar 2) (dC (.int 1)))) (dCons (dOp fIx (dVar 2) (dC (.int 2))) (dNil))))
def b_picked : Sn := nSeq (nDrop (dFn 1 f_need_capacity [] (dCons (dVar 1) (dNil))))
  (nRet (dCall fSumA (dCons (c_picked_1) (dNil))))
def f_picked : List D → FR := fdOf [0, 1] 3 b_picked
def c_halfway_1 : Dn D := dLc [5] (itAny (dFn 3 f_steps_along [] (dCons (dVar 0) (dCons (dVar 1) (dCons (dC (.int 1)) (dNil)))))) (tgName 5) (dTest (dOp fLe (dOp fIx (dVar 5) (dC (.int 0))) (dVar 2))) (dVar 5)
def b_halfway : Sn := nSeq (nDrop (dFn 1 f_need_capacity [] (dCons (dVar 1) (dNil))))
  (nSeq (nIf (dNot (dTest (dFn 1 f_is_integer [] (dCons (dVar 2) (dNil)))))
  (nRaise "BadIndex")
  (nSkip))
  (nSeq (nAsg 3 (c_halfway_1))
  (nSeq (nAsg 4 (dIf (dTest (dOp fNeA (dVar 3) (dLst (dNil)))) (dOp fIx (dOp fIx (dVar 3) (dUn fNeg (dC (.int 1)))) (dC (.int 3))) (dC (.int 0))))
  (nRet (dTup (dCons (dU (dFn 2 f_row_after [] (dCons (dVar 0) (dCons (dVar 3) (dNil))))) (dCons (dU (dVar 4)) (dNil))))))))
def f_halfway : List D → FR := fdOf [0, 1, 2] 6 b_halfway
def b_trace : Sn := nSeq (nDrop (dFn 1 f_need_capacity [] (dCons (dVar 1) (dNil))))
  (nRet (dFn 3 f_steps_along [] (dCons (dVar 0) (dCons (dVar 1) (dCons (dC (.int 1)) (dNil))))))
def f_trace : List D → FR := fdOf [0, 1] 2 b_trace
def b__law_sizes_1 : Sn := nAsg 2 (dC (.dct true [] []))
def b__law_sizes_2_1 : Sn := nDput (dOp fAdd (dC (.int 2)) (dFn 2 f__law_take [] (dCons (dVar 0) (dCons (dC (.int 8)) (dNil))))) (dVar 2) (dFn 2 f__law_pick [] (dCons (dVar 0) (dCons (dLst (dCons (dU (dOp fSub (dFn 2 f__law_take [] (dCons (dVar 0) (dCons (dC (.int 12)) (dNil)))) (dC (.int 3)))) (dCons (dU (dOp fSub (dFn 2 f__law_take [] (dCons (dVar 0) (dCons (dC (.int 12)) (dNil)))) (dC (.int 3)))) (dCons (dU (dC (.int 60))) (dCons (dU (dUn fNeg (dC (.int 60)))) (dNil)))))) (dNil))))
def b__law_sizes_2_b : Sn := b__law_sizes_2_1
def b__law_sizes_2 : Sn := nFor (itRng1 (dCons (dFn 2 f__law_take [] (dCons (dVar 0) (dCons (dOp fAdd (dVar 1) (dC (.int 1))) (dNil)))) (dNil))) (tgName 3)
  (b__law_sizes_2_b)
def c__law_sizes_1 : Dn D := dLc [4] (itAny (dCall fSortA (dCons (dVar 2) (dNil)))) (tgName 4) (dYes) (dTup (dCons (dU (dVar 4)) (dCons (dU (dOp fGet (dVar 2) (dVar 4))) (dNil))))
def b__law_sizes_3 : Sn := nRet (dCall fDictA (dCons (c__law_sizes_1) (dNil)))
def b__law_sizes : Sn := nSeq b__law_sizes_1 (nSeq b__law_sizes_2 (b__law_sizes_3))
def f__law_sizes : List D → FR := fdOf [0, 1] 5 b__law_sizes
def b__law_boxes_1 : Sn := nPar3 3 4 5 (dCons (dU (dFn 2 f__law_pick [] (dCons (dVar 0) (dCons (dLst (dCons (dU (dC (.int 0))) (dCons (dU (dC (.int 0))) (dCons (dU (dUn fNeg (dC (.int 2)))) (dCons (dU (dUn fNeg (dC (.int 9)))) (dCons (dU (dC (.int 30))) (dCons (dU (dOp fPow (dC (.int 10)) (dC (.int 29)))) (dCons (dU (dUn fNeg (dOp fPow (dC (.int 10)) (dC (.int 29))))) (dNil))))))))) (dNil))))) (dCons (dU (dC (.dct true [] []))) (dCons (dU (dVar 2)) (dNil))))
def b__law_boxes_2_1_1 : Sn := nAsg 8 (dCall fMin2 (dCons (dVar 5) (dCons (dOp fAdd (dC (.int 1)) (dFn 2 f__law_take [] (dCons (dVar 0) (dCons (dGet2 (dVar 1) (dVar 3) (dC (.int 1))) (dNil))))) (dNil))))
def b__law_boxes_2_1_2 : Sn := nIf (dTest (dOp fGt (dVar 8) (dC (.int 0))))
  (nDput (dVar 8) (dVar 4) (dVar 3))
  (nSkip)
def b__law_boxes_2_1_3 : Sn := nPar 5 3 (dCons (dU (dOp fSub (dVar 5) (dVar 8))) (dCons (dU (dOp fAdd (dVar 3) (dC (.int 1)))) (dNil)))
def b__law_boxes_2_1_b : Sn := nSeq b__law_boxes_2_1_1 (nSeq b__law_boxes_2_1_2 (b__law_boxes_2_1_3))
def b__law_boxes_2_1 : Sn := nFor (itRng1 (dCons (dOp fAdd (dC (.int 1)) (dFn 2 f__law_take [] (dCons (dVar 0) (dCons (dC (.int 4)) (dNil))))) (dNil))) (tgName 7)
  (b__law_boxes_2_1_b)
def b__law_boxes_2_2 : Sn := nAsg 3 (dOp fAdd (dVar 3) (dFn 2 f__law_pick [] (dCons (dVar 0) (dCons (dLst (dCons (dU (dC (.int 1))) (dCons (dU (dC (.int 1))) (dCons (dU (dC (.int 1))) (dCons (dU (dC (.int 2))) (dCons (dU (dC (.int 3))) (dCons (dU (dC (.int 8))) (dCons (dU (dOp fPow (dC (.int 10)) (dC (.int 28)))) (dNil))))))))) (dNil)))))
def b__law_boxes_2_b : Sn := nSeq b__law_boxes_2_1 (b__law_boxes_2_2)
def b__law_boxes_2 : Sn := nFor (itRng1 (dCons (dFn 2 f__law_take [] (dCons (dVar 0) (dCons (dC (.int 6)) (dNil)))) (dNil))) (tgName 6)
  (b__law_boxes_2_b)
def b__law_boxes_3_1 : Sn := nAsg 8 (dCall fMin2 (dCons (dVar 5) (dCons (dFn 2 f__law_take [] (dCons (dVar 0) (dCons (dOp fAdd (dOp fGet (dVar 1) (dVar 3)) (dC (.int 1))) (dNil)))) (dNil))))
def b__law_boxes_3_2 : Sn := nIf (dAnd (dTest (dOp fNotIn (dVar 3) (dVar 4))) (dTest (dOp fGt (dVar 8) (dC (.int 0)))))
  (nAsgT (tgTup [tgSubD (dVar 4) (dVar 3), tgName 5]) (dTup (dCons (dU (dVar 8)) (dCons (dU (dOp fSub (dVar 5) (dVar 8))) (dNil)))))
  (nSkip)
def b__law_boxes_3_b : Sn := nSeq b__law_boxes_3_1 (b__law_boxes_3_2)
def b__law_boxes_3 : Sn := nFor (itAny (dVar 1)) (tgName 3)
  (b__law_boxes_3_b)
def c__law_boxes_1 : Dn D := dLc [3] (itAny (dCall fSortA (dCons (dVar 4) (dNil)))) (tgName 3) (dYes) (dTup (dCons (dU (dVar 3)) (dCons (dU (dOp fGet (dVar 4) (dVar 3))) (dNil))))
def b__law_boxes_4 : Sn := nRet (dCall fDictA (dCons (c__law_boxes_1) (dNil)))
def b__law_boxes : Sn := nSeq b__law_boxes_1 (nSeq b__law_boxes_2 (nSeq b__law_boxes_3 (b__law_boxes_4)))
def f__law_boxes : List D → FR := fdOf [0, 1, 2] 9 b__law_boxes
def b__law_made : Sn := nRet (dFz (dU (dMk "Row" 3 f_Row_init [] (dCons (dItems (dVar 0)) (dCons (dItems (dVar 1)) (dNil))))))
def f__law_made : List D → FR := fdOf [0, 1] 2 b__law_made
def c__law_is_1 : Dn D := dLc [3] (itAny (dCall fSortA (dCons (dVar 1) (dNil)))) (tgName 3) (dYes) (dTup (dCons (dU (dVar 3)) (dCons (dU (dOp fGet (dVar 1) (dVar 3))) (dNil))))
def c__law_is_2 : Dn D := dLc [3] (itAny (dCall fSortA (dCons (dVar 2) (dNil)))) (tgName 3) (dYes) (dTup (dCons (dU (dVar 3)) (dCons (dU (dOp fGet (dVar 2) (dVar 3))) (dNil))))
def b__law_is : Sn := nSeq (nIf (dTest (dOp fNeA (dCall fRepr (dCons (dProp "Row" f_Row_contents (dVar 0)) (dNil))) (dCall fRepr (dCons (dCall fTuple (dCons (c__law_is_1) (dNil))) (dNil)))))
  (nRet (dC (.bl false)))
  (nSkip))
  (nRet (dOp fEqA (dCall fRepr (dCons (dProp "Row" f_Row_capacities (dVar 0)) (dNil))) (dCall fRepr (dCons (dCall fTuple (dCons (c__law_is_2) (dNil))) (dNil)))))
def f__law_is : List D → FR := fdOf [0, 1, 2] 4 b__law_is
def b__law_passed : Sn := nSeq (nPar 4 5 (dCons (dU (dCall fMin2 (dCons (dOp fSub (dVar 0) (dVar 1)) (dCons (dVar 3) (dNil))))) (dCons (dU (dCall fMin2 (dCons (dVar 1) (dCons (dOp fSub (dVar 2) (dVar 3)) (dNil))))) (dNil))))
  (nRet (dTup (dCons (dU (dOp fAdd (dOp fSub (dVar 3) (dVar 4)) (dVar 5))) (dCons (dU (dOp fSub (dOp fAdd (dVar 1) (dVar 4)) (dVar 5))) (dNil)))))
def f__law_passed : List D → FR := fdOf [0, 1, 2, 3] 6 b__law_passed
def b__law_walk_1 : Sn := nPar4 3 4 5 6 (dCons (dU (dCall fSortA (dCons (dVar 0) (dNil)))) (dCons (dU (dC (.int 0))) (dCons (dU (dC (.int 0))) (dCons (dU (dLst (dNil))) (dNil)))))
def b__law_walk_2_1 : Sn := nAsg 5 (dIf (dTest (dOp fEqA (dVar 4) (dC (.int 0)))) (dOp fIx (dVar 3) (dC (.int 0))) (dVar 5))
def b__law_walk_2_2 : Sn := nAsg 3 (dIf (dTest (dOp fEqA (dOp fSlU (dVar 3) (dC (.int 1))) (dLst (dCons (dU (dVar 5)) (dNil))))) (dOp fSlL (dVar 3) (dC (.int 1))) (dVar 3))
def b__law_walk_2_3 : Sn := nAsg 7 (dGet2 (dVar 0) (dVar 5) (dC (.int 0)))
def b__law_walk_2_4 : Sn := nAsgT (tgTup [tgName 8, tgName 9]) (dFn 4 f__law_passed [] (dCons (dVar 2) (dCons (dVar 4) (dCons (dGet2 (dVar 1) (dVar 5) (dC (.int 1))) (dCons (dVar 7) (dNil))))))
def b__law_walk_2_5 : Sn := nDrop (dMeth isL mAppend (dVar 6) (dCons (dU (dTup (dCons (dU (dVar 5)) (dCons (dU (dVar 4)) (dCons (dU (dVar 7)) (dCons (dU (dVar 9)) (dCons (dU (dVar 8)) (dNil)))))))) (dNil)))
def b__law_walk_2_6 : Sn := nPar 4 5 (dCons (dU (dVar 9)) (dCons (dU (dOp fAdd (dVar 5) (dC (.int 1)))) (dNil)))
def b__law_walk_2_b : Sn := nSeq b__law_walk_2_1 (nSeq b__law_walk_2_2 (nSeq b__law_walk_2_3 (nSeq b__law_walk_2_4 (nSeq b__law_walk_2_5 (b__law_walk_2_6)))))
def b__law_walk_2 : Sn := whileD (dOr (dTest (dOp fGt (dVar 4) (dC (.int 0)))) (dTest (dOp fNeA (dVar 3) (dLst (dNil)))))
  (b__law_walk_2_b)
def b__law_walk_3 : Sn := nRet (dVar 6)
def b__law_walk : Sn := nSeq b__law_walk_1 (nSeq b__law_walk_2 (b__law_walk_3))
def f__law_walk : List D → FR := fdOf [0, 1, 2] 10 b__law_walk
def b__law_swept_1 : Sn := nAsg 3 (dCall fDictA (dCons (dItems (dVar 0)) (dNil)))
def b__law_swept_2_1 : Sn := nDput (dVar 8) (dVar 3) (dVar 4)
def b__law_swept_2_b : Sn := b__law_swept_2_1
def b__law_swept_2 : Sn := nFor (itAny (dFn 3 f__law_walk [] (dCons (dVar 0) (dCons (dVar 1) (dCons (dVar 2) (dNil)))))) (tgTup [tgName 4, tgName 5, tgName 6, tgName 7, tgName 8])
  (b__law_swept_2_b)
def c__law_swept_1 : Dn D := dLc [4] (itAny (dCall fSortA (dCons (dVar 3) (dNil)))) (tgName 4) (dTest (dOp fGt (dOp fGet (dVar 3) (dVar 4)) (dC (.int 0)))) (dTup (dCons (dU (dVar 4)) (dCons (dU (dOp fGet (dVar 3) (dVar 4))) (dNil))))
def b__law_swept_3 : Sn := nRet (dCall fDictA (dCons (c__law_swept_1) (dNil)))
def b__law_swept : Sn := nSeq b__law_swept_1 (nSeq b__law_swept_2 (b__law_swept_3))
def f__law_swept : List D → FR := fdOf [0, 1, 2] 9 b__law_swept
def b__law_half_1 : Sn := nPar 4 5 (dCons (dU (dCall fDictA (dCons (dItems (dVar 0)) (dNil)))) (dCons (dU (dC (.int 0))) (dNil)))
def b__law_half_2_1 : Sn := nIf (dTest (dOp fLe (dVar 6) (dVar 3)))
  (nAsgT (tgTup [tgSubD (dVar 4) (dVar 6), tgName 5]) (dTup (dCons (dU (dVar 10)) (dCons (dU (dVar 9)) (dNil)))))
  (nSkip)
def b__law_half_2_b : Sn := b__law_half_2_1
def b__law_half_2 : Sn := nFor (itAny (dFn 3 f__law_walk [] (dCons (dVar 0) (dCons (dVar 1) (dCons (dVar 2) (dNil)))))) (tgTup [tgName 6, tgName 7, tgName 8, tgName 9, tgName 10])
  (b__law_half_2_b)
def c__law_half_1 : Dn D := dLc [6] (itAny (dVar 4)) (tgName 6) (dTest (dOp fGt (dOp fGet (dVar 4) (dVar 6)) (dC (.int 0)))) (dTup (dCons (dU (dVar 6)) (dCons (dU (dOp fGet (dVar 4) (dVar 6))) (dNil))))
def b__law_half_3 : Sn := nRet (dTup (dCons (dU (dFz (dU (dCall fDictA (dCons (c__law_half_1) (dNil)))))) (dCons (dU (dVar 5)) (dNil))))
def b__law_half : Sn := nSeq b__law_half_1 (nSeq b__law_half_2 (b__law_half_3))
def f__law_half : List D → FR := fdOf [0, 1, 2, 3] 11 b__law_half
def c__law_trace_1 : Dn D := dLc [4, 5, 6, 7, 8] (itAny (dVar 3)) (tgTup [tgName 4, tgName 5, tgName 6, tgName 7, tgName 8]) (dYes) (dTup (dCons (dU (dVar 4)) (dCons (dU (dVar 5)) (dCons (dU (dVar 6)) (dCons (dU (dVar 7)) (dCons (dU (dVar 8)) (dNil)))))))
def b__law_trace : Sn := nSeq (nAsg 3 (dFn 3 f__law_walk [] (dCons (dVar 0) (dCons (dVar 1) (dCons (dVar 2) (dNil))))))
  (nRet (c__law_trace_1))
def f__law_trace : List D → FR := fdOf [0, 1, 2] 9 b__law_trace
end
end DL
set_option Elab.async false
set_option linter.all false
set_option maxRecDepth 100000
set_option maxHeartbeats 4000000
/-! DS2: printed by gen.py, share.py: denotations that several laws have. -/
namespace DL
open PySem L2
noncomputable section
def b_unsweep : Sn := nSeq (nDrop (dFn 1 f_need_capacity [] (dCons (dVar 1) (dNil))))
  (nRet (dFn 2 f_row_after [] (dCons (dVar 0) (dCons (dFn 3 f_steps_along [] (dCons (dVar 0) (dCons (dVar 1) (dCons (dUn fNeg (dC (.int 1))) (dNil))))) (dNil)))))
def f_unsweep : List D → FR := fdOf [0, 1] 2 b_unsweep
def c__law_turned_1 : Dn D := dLc [1] (itAny (dVar 0)) (tgName 1) (dYes) (dTup (dCons (dU (dUn fNeg (dVar 1))) (dCons (dU (dOp fGet (dVar 0) (dVar 1))) (dNil))))
def b__law_turned : Sn := nRet (dCall fDictA (dCons (c__law_turned_1) (dNil)))
def f__law_turned : List D → FR := fdOf [0] 2 b__law_turned
def b__law_back : Sn := nRet (dFn 1 f__law_turned [] (dCons (dFn 3 f__law_swept [] (dCons (dFn 1 f__law_turned [] (dCons (dVar 0) (dNil))) (dCons (dFn 1 f__law_turned [] (dCons (dVar 1) (dNil))) (dCons (dVar 2) (dNil))))) (dNil)))
def f__law_back : List D → FR := fdOf [0, 1, 2] 3 b__law_back
end
end DL
set_option Elab.async false
set_option linter.all false
set_option maxRecDepth 100000
set_option maxHeartbeats 4000000
/-! DS3: printed by gen.py, share.py: denotations that several laws have. -/
namespace DL
open PySem L2
noncomputable section
def b__law_shuffled_1 : Sn := nPar 2 3 (dCons (dU (dCall fList (dCons (dVar 1) (dNil)))) (dCons (dU (dLst (dNil))) (dNil)))
def b__law_shuffled_2_1 : Sn := nDrop (dMeth isL mAppend (dVar 3) (dCons (dU (dMeth isL mPopAt (dVar 2) (dCons (dU (dFn 2 f__law_take [] (dCons (dVar 0) (dCons (dCall fLenA (dCons (dVar 2) (dNil))) (dNil))))) (dNil)))) (dNil)))
def b__law_shuffled_2_b : Sn := b__law_shuffled_2_1
def b__law_shuffled_2 : Sn := whileD (dTest (dOp fNeA (dVar 2) (dLst (dNil))))
  (b__law_shuffled_2_b)
def b__law_shuffled_3 : Sn := nRet (dVar 3)
def b__law_shuffled : Sn := nSeq b__law_shuffled_1 (nSeq b__law_shuffled_2 (b__law_shuffled_3))
def f__law_shuffled : List D → FR := fdOf [0, 1] 4 b__law_shuffled
end
end DL
set_option Elab.async false
set_option linter.all false
set_option maxRecDepth 100000
set_option maxHeartbeats 4000000
/-! printed by gen.py: the text of k18 by places, its denotations, their derivations. -/
namespace K18
open PySem L2 DL
noncomputable section
def top (i : Nat) : Stmt := PySem.Challenge.pw_scooprow_k18_whole_sweeps_in_any_order.main.body.getD i (.Pass ⟨0, 0, 0, 0⟩)
structure Txt (K : PySem.W.Frag) (mg : Str → Option Value) : Prop where
  z_all : mg "all" = none
  z_bool : mg "bool" = none
  z_dict : mg "dict" = none
  z_int : mg "int" = none
  z_isinstance : mg "isinstance" = none
  z_len : mg "len" = none
  z_list : mg "list" = none
  z_min : mg "min" = none
  z_range : mg "range" = none
  z_set : mg "set" = none
  z_sorted : mg "sorted" = none
  z_sum : mg "sum" = none
  z_tuple : mg "tuple" = none
  c_FARTHEST : ∃ t, mg "FARTHEST" = some (.int 60 t)
  c_GREATEST_CAPACITY : ∃ t, mg "GREATEST_CAPACITY" = some (.int 99 t)
  c_MOST_ITEMS : ∃ t, mg "MOST_ITEMS" = some (.int 40 t)
  c_MOST_WIDE : ∃ t, mg "MOST_WIDE" = some (.int 6 t)
  c_NARROWEST : ∃ t, mg "NARROWEST" = some (.int 2 t)
  c_WIDEST : ∃ t, mg "WIDEST" = some (.int 9 t)
  x_BadCapacity : ExcR K mg "BadCapacity"
  x_BadIndex : ExcR K mg "BadIndex"
  of_Row_r_counts : ObF K mg "Row" "r_counts"
  of_Row_r_sizes : ObF K mg "Row" "r_sizes"
  io_Row : IsoT K mg "Row" [] o_Row p_Row
abbrev s_BadRow_init : Stmt := inClass (top 3) 0
theorem sc_BadRow_init : FnScope ["self", "field"] ["self", "field"] (defScope s_BadRow_init) := ⟨rfl, rfl, rfl, by decide +kernel, rfl, by decide +kernel, by decide +kernel⟩

/-! ### is_integer -/
abbrev s_is_integer : Stmt := top 12
theorem sc_is_integer : FnScope ["value"] ["value"] (defScope s_is_integer) := ⟨rfl, rfl, rfl, by decide +kernel, rfl, by decide +kernel, by decide +kernel⟩
theorem ok_is_integer {Pr : Program} {w : World} {K : PySem.W.Frag} {mg : Str → Option Value} {base : Heap} {f : Addr} {fd : FuncData} (F : Fun K "is_integer" "is_integer" s_is_integer f fd) (T : Txt K mg) : FnD Pr w K mg base 1 f fd ["value"] f_is_integer :=
  fnD_of (Pn := [0]) F sc_is_integer (by decide) fun cdv A outer s H E hr hgd =>
  (gss_one (gs_ret (gb_and (gb_val (ge_isi (ge_var 0) T.z_isinstance T.z_int)) (gb_one (gb_not (gb_val (ge_isi (ge_var 0) T.z_isinstance T.z_bool)))))))

/-! ### is_between -/
abbrev s_is_between : Stmt := top 13
theorem sc_is_between : FnScope ["value", "least", "greatest"] ["value", "least", "greatest"] (defScope s_is_between) := ⟨rfl, rfl, rfl, by decide +kernel, rfl, by decide +kernel, by decide +kernel⟩
theorem ok_is_between {Pr : Program} {w : World} {K : PySem.W.Frag} {mg : Str → Option Value} {base : Heap} {f : Addr} {fd : FuncData} (F : Fun K "is_between" "is_between" s_is_between f fd) (T : Txt K mg) (h_is_integer : Has Pr w K mg base 1 "is_integer" ["value"] f_is_integer []) : FnD Pr w K mg base 2 f fd ["value", "least", "greatest"] f_is_between :=
  fnD_of (Pn := [0, 1, 2]) F sc_is_between (by decide) fun cdv A outer s H E hr hgd =>
  (gss_one (gs_ret (gb_and (gb_val (ge_fn tkx hgd h_is_integer (hr.mono (by decide)) (ga_cons (ge_var 0) ga_nil))) (gb_one (gb_chain op_le os_le op_le os_le (ge_var 1) (ge_var 0) (ge_var 2))))))

/-! ### are_pairs -/
abbrev s_are_pairs : Stmt := top 14
theorem sc_are_pairs : FnScope ["value", "pair", "first", "second"] ["value"] (defScope s_are_pairs) := ⟨rfl, rfl, rfl, by decide +kernel, rfl, by decide +kernel, by decide +kernel⟩
theorem ok_are_pairs {Pr : Program} {w : World} {K : PySem.W.Frag} {mg : Str → Option Value} {base : Heap} {f : Addr} {fd : FuncData} (F : Fun K "are_pairs" "are_pairs" s_are_pairs f fd) (T : Txt K mg) (h_is_integer : Has Pr w K mg base 1 "is_integer" ["value"] f_is_integer []) : FnD Pr w K mg base 2 f fd ["value"] f_are_pairs :=
  fnD_of (Pn := [0]) F sc_are_pairs (by decide) fun cdv A outer s H E hr hgd =>
  (gss_cons (gs_if (gt_not (gt_val (ge_isi2 (ge_var 0) T.z_isinstance T.z_list T.z_tuple)))
  (gss_one (gs_ret ge_bl))
  gss_nil)
  (gss_cons (gs_if (gt_not (gt_val (ge_all T.z_all rfl (ga_cons (ge_lc [("pair", 1)] rfl sc_are_pairs.nd (gi_any (ge_use (ge_var 0))) (by show BlkOk ["value", "pair", "first", "second"] (defScope s_are_pairs) _ [("pair", 1)]; exact ⟨by rfl, by decide +kernel, by decide +kernel, by decide +kernel, by decide +kernel⟩) (fun _ _ _ _ _ => (gg_name 1 sc_are_pairs.nd)) (fun _ _ _ _ _ => gts_nil) (fun _ _ _ _ _ => (by exact (ge_use (ge_gb (gb_and (gb_val (by exact (ge_isi (ge_var 1) T.z_isinstance T.z_tuple))) (gb_one (gb_val (by exact (ge_cmp (op_eqA (hu64 hr)) os_eqA (ge_lenA T.z_len (ga_cons (ge_var 1) ga_nil)) ge_int (h1 := fEqA_un1) (h2 := fEqA_un2))))))))))) ga_nil))))
  (gss_one (gs_ret ge_bl))
  gss_nil)
  (gss_cons (gs_if (gt_not (gt_val (ge_all T.z_all rfl (ga_cons (ge_lc [("first", 2), ("second", 3)] rfl sc_are_pairs.nd (gi_any (ge_use (ge_var 0))) (by show BlkOk ["value", "pair", "first", "second"] (defScope s_are_pairs) _ [("first", 2), ("second", 3)]; exact ⟨by rfl, by decide +kernel, by decide +kernel, by decide +kernel, by decide +kernel⟩) (fun _ _ _ _ _ => (gg_tup rfl (ggs_cons (gg_name 2 sc_are_pairs.nd) (ggs_cons (gg_name 3 sc_are_pairs.nd) ggs_nil)))) (fun _ _ _ _ _ => gts_nil) (fun _ _ _ _ _ => (by exact (ge_use (ge_gb (gb_and (gb_val (by exact (ge_fn (ps := ["value"]) takes_no hgd h_is_integer (hr.mono (by decide)) (ga_cons (ge_var 2) ga_nil)))) (gb_one (gb_val (by exact (ge_fn (ps := ["value"]) takes_no hgd h_is_integer (hr.mono (by decide)) (ga_cons (ge_var 3) ga_nil))))))))))) ga_nil))))
  (gss_one (gs_ret ge_bl))
  gss_nil)
  (gss_one (gs_ret (ge_cmp (op_eqA (hu64 hr)) os_eqA (ge_lenSet T.z_len T.z_set rfl (ge_lc [("first", 2), ("second", 3)] rfl sc_are_pairs.nd (gi_any (ge_use (ge_var 0))) (by show BlkOk ["value", "pair", "first", "second"] (defScope s_are_pairs) _ [("first", 2), ("second", 3)]; exact ⟨by rfl, by decide +kernel, by decide +kernel, by decide +kernel, by decide +kernel⟩) (fun _ _ _ _ _ => (gg_tup rfl (ggs_cons (gg_name 2 sc_are_pairs.nd) (ggs_cons (gg_name 3 sc_are_pairs.nd) ggs_nil)))) (fun _ _ _ _ _ => gts_nil) (fun _ _ _ _ _ => (ge_use (ge_var 2))))) (ge_lenA T.z_len (ga_cons (ge_var 0) ga_nil)) (h1 := fEqA_un1) (h2 := fEqA_un2)))))))

/-! ### are_capacities -/
abbrev s_are_capacities : Stmt := top 15
theorem sc_are_capacities : FnScope ["value", "index", "capacity"] ["value"] (defScope s_are_capacities) := ⟨rfl, rfl, rfl, by decide +kernel, rfl, by decide +kernel, by decide +kernel⟩
theorem ok_are_capacities {Pr : Program} {w : World} {K : PySem.W.Frag} {mg : Str → Option Value} {base : Heap} {f : Addr} {fd : FuncData} (F : Fun K "are_capacities" "are_capacities" s_are_capacities f fd) (T : Txt K mg) (h_are_pairs : Has Pr w K mg base 2 "are_pairs" ["value"] f_are_pairs []) (h_is_between : Has Pr w K mg base 2 "is_between" ["value", "least", "greatest"] f_is_between []) : FnD Pr w K mg base 3 f fd ["value"] f_are_capacities :=
  fnD_of (Pn := [0]) F sc_are_capacities (by decide) fun cdv A outer s H E hr hgd =>
  (gss_cons (gs_if (gt_w (gw_or (gt_not (gt_val (ge_fn tkx hgd h_are_pairs (hr.mono (by decide)) (ga_cons (ge_var 0) ga_nil)))) (gw_or1 (gt_cmp op_gt os_gt (ge_lenA T.z_len (ga_cons (ge_var 0) ga_nil)) (ge_glob T.c_MOST_WIDE)))))
  (gss_one (gs_ret ge_bl))
  gss_nil)
  (gss_cons (gs_for pox rfl (gi_any (ge_use (ge_var 0))) (gg_tup rfl (ggs_cons (gg_name 1 sc_are_capacities.nd) (ggs_cons (gg_name 2 sc_are_capacities.nd) ggs_nil)))
  (gss_one (gs_if (gt_w (gw_or (gt_not (gt_val (ge_fn tkx hgd h_is_between (hr.mono (by decide)) (ga_cons (ge_var 1) (ga_cons (ge_un un_neg us_neg (ge_glob T.c_FARTHEST)) (ga_cons (ge_glob T.c_FARTHEST) ga_nil)))))) (gw_or1 (gt_not (gt_val (ge_fn tkx hgd h_is_between (hr.mono (by decide)) (ga_cons (ge_var 2) (ga_cons (ge_glob T.c_NARROWEST) (ga_cons (ge_glob T.c_WIDEST) ga_nil)))))))))
  (gss_one (gs_ret ge_bl))
  gss_nil)))
  (gss_one (gs_ret ge_bl))))

/-! ### are_contents -/
abbrev s_are_contents : Stmt := top 16
theorem sc_are_contents : FnScope ["value", "capacities", "sizes", "index", "count"] ["value", "capacities"] (defScope s_are_contents) := ⟨rfl, rfl, rfl, by decide +kernel, rfl, by decide +kernel, by decide +kernel⟩
theorem ok_are_contents {Pr : Program} {w : World} {K : PySem.W.Frag} {mg : Str → Option Value} {base : Heap} {f : Addr} {fd : FuncData} (F : Fun K "are_contents" "are_contents" s_are_contents f fd) (T : Txt K mg) (h_are_pairs : Has Pr w K mg base 2 "are_pairs" ["value"] f_are_pairs []) : FnD Pr w K mg base 3 f fd ["value", "capacities"] f_are_contents :=
  fnD_of (Pn := [0, 1]) F sc_are_contents (by decide) fun cdv A outer s H E hr hgd =>
  (gss_cons (gs_if (gt_not (gt_val (ge_fn tkx hgd h_are_pairs (hr.mono (by decide)) (ga_cons (ge_var 0) ga_nil))))
  (gss_one (gs_ret ge_bl))
  gss_nil)
  (gss_cons (gs_set 2 (ge_use (ge_dictc T.z_dict rfl (ga_cons (ge_listc T.z_list (ga_cons (ge_var 1) ga_nil)) ga_nil))) sc_are_contents.nd)
  (gss_cons (gs_for pox rfl (gi_any (ge_use (ge_var 0))) (gg_tup rfl (ggs_cons (gg_name 3 sc_are_contents.nd) (ggs_cons (gg_name 4 sc_are_contents.nd) ggs_nil)))
  (gss_one (gs_if (gt_not (gt_chain op_le os_le op_le os_le ge_int (ge_var 4) (ge_get2 (hu1 hr) (ge_var 2) (ge_var 3) ge_int)))
  (gss_one (gs_ret ge_bl))
  gss_nil)))
  (gss_one (gs_ret (ge_cmp op_le os_le (ge_sum T.z_sum rfl (ga_cons (ge_lc [("index", 3), ("count", 4)] rfl sc_are_contents.nd (gi_any (ge_use (ge_var 0))) (by show BlkOk ["value", "capacities", "sizes", "index", "count"] (defScope s_are_contents) _ [("index", 3), ("count", 4)]; exact ⟨by rfl, by decide +kernel, by decide +kernel, by decide +kernel, by decide +kernel⟩) (fun _ _ _ _ _ => (gg_tup rfl (ggs_cons (gg_name 3 sc_are_contents.nd) (ggs_cons (gg_name 4 sc_are_contents.nd) ggs_nil)))) (fun _ _ _ _ _ => gts_nil) (fun _ _ _ _ _ => (ge_use (ge_var 4)))) ga_nil)) (ge_glob T.c_MOST_ITEMS)))))))

/-! ### Row_init -/
abbrev s_Row_init : Stmt := inClass (top 17) 0
theorem sc_Row_init : FnScope ["self", "contents", "capacities"] ["self", "contents", "capacities"] (defScope s_Row_init) := ⟨rfl, rfl, rfl, by decide +kernel, rfl, by decide +kernel, by decide +kernel⟩
theorem ok_Row_init {Pr : Program} {w : World} {K : PySem.W.Frag} {mg : Str → Option Value} {base : Heap} {f : Addr} {fd : FuncData} (F : FunX K "__init__" "Row.__init__" s_Row_init f fd) (T : Txt K mg) (h_are_capacities : Has Pr w K mg base 3 "are_capacities" ["value"] f_are_capacities []) (h_are_contents : Has Pr w K mg base 3 "are_contents" ["value", "capacities"] f_are_contents []) (hi_BadRow : ExcI Pr w K mg base "BadRow" "field" "field") : FnD Pr w K mg base 4 f fd ["self", "contents", "capacities"] f_Row_init :=
  fnD_ofX (Pn := [0, 1, 2]) F sc_Row_init (by decide) fun cdv A outer s H E hr hgd =>
  (gss_cons (gs_if (gt_not (gt_val (ge_fn tkx hgd h_are_capacities (hr.mono (by decide)) (ga_cons (ge_var 2) ga_nil))))
  (gss_one (gs_raiseM rfl tkx (gm_init tkx hgd (hr.mono (by decide)) hi_BadRow (ge_use ge_str))))
  gss_nil)
  (gss_cons (gs_if (gt_not (gt_val (ge_fn tkx hgd h_are_contents (hr.mono (by decide)) (ga_cons (ge_var 1) (ga_cons (ge_var 2) ga_nil)))))
  (gss_one (gs_raiseM rfl tkx (gm_init tkx hgd (hr.mono (by decide)) hi_BadRow (ge_use ge_str))))
  gss_nil)
  (gss_cons (gs_fput T.of_Row_r_counts (ge_var 0) (ge_use (ge_dictc T.z_dict rfl (ga_cons (ge_sortA T.z_sorted rfl (ga_cons (ge_var 1) ga_nil)) ga_nil))))
  (gss_one (gs_fput T.of_Row_r_sizes (ge_var 0) (ge_use (ge_dictc T.z_dict rfl (ga_cons (ge_sortA T.z_sorted rfl (ga_cons (ge_var 2) ga_nil)) ga_nil))))))))

/-! ### Row_contents -/
abbrev s_Row_contents : Stmt := inClass (top 17) 1
theorem sc_Row_contents : FnScope ["self"] ["self"] (defScope s_Row_contents) := ⟨rfl, rfl, rfl, by decide +kernel, rfl, by decide +kernel, by decide +kernel⟩
theorem ok_Row_contents {Pr : Program} {w : World} {K : PySem.W.Frag} {mg : Str → Option Value} {base : Heap} {f : Addr} {fd : FuncData} (F : FunX K "contents" "Row.contents" s_Row_contents f fd) (T : Txt K mg) : FnD Pr w K mg base 1 f fd ["self"] f_Row_contents :=
  fnD_ofX (Pn := [0]) F sc_Row_contents (by decide) fun cdv A outer s H E hr hgd =>
  (gss_one (gs_ret (ge_tuplec T.z_tuple (ga_cons (ge_items T.z_list rfl (ge_fld T.of_Row_r_counts (ge_var 0))) ga_nil))))

/-! ### Row_capacities -/
abbrev s_Row_capacities : Stmt := inClass (top 17) 2
theorem sc_Row_capacities : FnScope ["self"] ["self"] (defScope s_Row_capacities) := ⟨rfl, rfl, rfl, by decide +kernel, rfl, by decide +kernel, by decide +kernel⟩
theorem ok_Row_capacities {Pr : Program} {w : World} {K : PySem.W.Frag} {mg : Str → Option Value} {base : Heap} {f : Addr} {fd : FuncData} (F : FunX K "capacities" "Row.capacities" s_Row_capacities f fd) (T : Txt K mg) : FnD Pr w K mg base 1 f fd ["self"] f_Row_capacities :=
  fnD_ofX (Pn := [0]) F sc_Row_capacities (by decide) fun cdv A outer s H E hr hgd =>
  (gss_one (gs_ret (ge_tuplec T.z_tuple (ga_cons (ge_items T.z_list rfl (ge_fld T.of_Row_r_sizes (ge_var 0))) ga_nil))))

/-! ### Row_held -/
abbrev s_Row_held : Stmt := inClass (top 17) 3
theorem sc_Row_held : FnScope ["self", "index"] ["self", "index"] (defScope s_Row_held) := ⟨rfl, rfl, rfl, by decide +kernel, rfl, by decide +kernel, by decide +kernel⟩
theorem ok_Row_held {Pr : Program} {w : World} {K : PySem.W.Frag} {mg : Str → Option Value} {base : Heap} {f : Addr} {fd : FuncData} (F : FunX K "held" "Row.held" s_Row_held f fd) (T : Txt K mg) (h_is_integer : Has Pr w K mg base 1 "is_integer" ["value"] f_is_integer []) : FnD Pr w K mg base 2 f fd ["self", "index"] f_Row_held :=
  fnD_ofX (Pn := [0, 1]) F sc_Row_held (by decide) fun cdv A outer s H E hr hgd =>
  (gss_cons (gs_if (gt_not (gt_val (ge_fn tkx hgd h_is_integer (hr.mono (by decide)) (ga_cons (ge_var 1) ga_nil))))
  (gss_one (gs_raiseR rfl tkx T.x_BadIndex))
  gss_nil)
  (gss_one (gs_ret (ge_get2 (hu1 hr) (ge_fld T.of_Row_r_counts (ge_var 0)) (ge_var 1) ge_int))))

/-! ### Row_capacity -/
abbrev s_Row_capacity : Stmt := inClass (top 17) 4
theorem sc_Row_capacity : FnScope ["self", "index"] ["self", "index"] (defScope s_Row_capacity) := ⟨rfl, rfl, rfl, by decide +kernel, rfl, by decide +kernel, by decide +kernel⟩
theorem ok_Row_capacity {Pr : Program} {w : World} {K : PySem.W.Frag} {mg : Str → Option Value} {base : Heap} {f : Addr} {fd : FuncData} (F : FunX K "capacity" "Row.capacity" s_Row_capacity f fd) (T : Txt K mg) (h_is_integer : Has Pr w K mg base 1 "is_integer" ["value"] f_is_integer []) : FnD Pr w K mg base 2 f fd ["self", "index"] f_Row_capacity :=
  fnD_ofX (Pn := [0, 1]) F sc_Row_capacity (by decide) fun cdv A outer s H E hr hgd =>
  (gss_cons (gs_if (gt_not (gt_val (ge_fn tkx hgd h_is_integer (hr.mono (by decide)) (ga_cons (ge_var 1) ga_nil))))
  (gss_one (gs_raiseR rfl tkx T.x_BadIndex))
  gss_nil)
  (gss_one (gs_ret (ge_get2 (hu1 hr) (ge_fld T.of_Row_r_sizes (ge_var 0)) (ge_var 1) ge_int))))

/-! ### Row_total -/
abbrev s_Row_total : Stmt := inClass (top 17) 5
theorem sc_Row_total : FnScope ["self", "index", "count"] ["self"] (defScope s_Row_total) := ⟨rfl, rfl, rfl, by decide +kernel, rfl, by decide +kernel, by decide +kernel⟩
theorem ok_Row_total {Pr : Program} {w : World} {K : PySem.W.Frag} {mg : Str → Option Value} {base : Heap} {f : Addr} {fd : FuncData} (F : FunX K "total" "Row.total" s_Row_total f fd) (T : Txt K mg) (hp_Row_contents : HasP Pr w K mg base 1 "Row" "contents" ["self"] f_Row_contents) : FnD Pr w K mg base 3 f fd ["self"] f_Row_total :=
  fnD_ofX (Pn := [0]) F sc_Row_total (by decide) fun cdv A outer s H E hr hgd =>
  (gss_one (gs_ret (ge_sum T.z_sum rfl (ga_cons (ge_lc [("index", 1), ("count", 2)] rfl sc_Row_total.nd (gi_any (ge_use (ge_prop hgd hp_Row_contents (hr.mono (by decide)) (ge_var 0)))) (by show BlkOk ["self", "index", "count"] (defScope s_Row_total) _ [("index", 1), ("count", 2)]; exact ⟨by rfl, by decide +kernel, by decide +kernel, by decide +kernel, by decide +kernel⟩) (fun _ _ _ _ _ => (gg_tup rfl (ggs_cons (gg_name 1 sc_Row_total.nd) (ggs_cons (gg_name 2 sc_Row_total.nd) ggs_nil)))) (fun _ _ _ _ _ => gts_nil) (fun _ _ _ _ _ => (ge_use (ge_var 2)))) ga_nil))))

/-! ### Row_eq -/
abbrev s_Row_eq : Stmt := inClass (top 17) 7
theorem sc_Row_eq : FnScope ["self", "other"] ["self", "other"] (defScope s_Row_eq) := ⟨rfl, rfl, rfl, by decide +kernel, rfl, by decide +kernel, by decide +kernel⟩
theorem ok_Row_eq {Pr : Program} {w : World} {K : PySem.W.Frag} {mg : Str → Option Value} {base : Heap} {f : Addr} {fd : FuncData} (F : FunX K "__eq__" "Row.__eq__" s_Row_eq f fd) (T : Txt K mg) (hp_Row_capacities : HasP Pr w K mg base 1 "Row" "capacities" ["self"] f_Row_capacities) (hp_Row_contents : HasP Pr w K mg base 1 "Row" "contents" ["self"] f_Row_contents) : FnD Pr w K mg base 3 f fd ["self", "other"] f_Row_eq :=
  fnD_ofX (Pn := [0, 1]) F sc_Row_eq (by decide) fun cdv A outer s H E hr hgd =>
  (gss_one (gs_ret (ge_gb (gb_and (gb_val (ge_isiO (ge_var 1) T.z_isinstance T.io_Row)) (gb_and (gb_val (ge_cmp (op_eqA (hu64 hr)) os_eqA (ge_prop hgd hp_Row_contents (hr.mono (by decide)) (ge_var 0)) (ge_prop hgd hp_Row_contents (hr.mono (by decide)) (ge_var 1)) (h1 := fEqA_un1) (h2 := fEqA_un2))) (gb_one (gb_val (ge_cmp (op_eqA (hu64 hr)) os_eqA (ge_prop hgd hp_Row_capacities (hr.mono (by decide)) (ge_var 0)) (ge_prop hgd hp_Row_capacities (hr.mono (by decide)) (ge_var 1)) (h1 := fEqA_un1) (h2 := fEqA_un2)))))))))

/-! ### row_with -/
abbrev s_row_with : Stmt := top 18
theorem sc_row_with : FnScope ["counts", "capacities", "index", "count"] ["counts", "capacities"] (defScope s_row_with) := ⟨rfl, rfl, rfl, by decide +kernel, rfl, by decide +kernel, by decide +kernel⟩
theorem ok_row_with {Pr : Program} {w : World} {K : PySem.W.Frag} {mg : Str → Option Value} {base : Heap} {f : Addr} {fd : FuncData} (F : Fun K "row_with" "row_with" s_row_with f fd) (T : Txt K mg) (hc_Row_2 : HasC Pr w K mg base 4 "Row" ["self", "contents", "capacities"] f_Row_init []) : FnD Pr w K mg base 6 f fd ["counts", "capacities"] f_row_with :=
  fnD_of (Pn := [0, 1]) F sc_row_with (by decide) fun cdv A outer s H E hr hgd =>
  (gss_one (gs_ret (geu_ge (ge_fz (ge_use (ge_mk tkx hgd hc_Row_2 (hr.mono (by decide)) (ga_cons (ge_lc [("index", 2), ("count", 3)] rfl sc_row_with.nd (gi_items (ge_use (ge_var 0))) (by show BlkOk ["counts", "capacities", "index", "count"] (defScope s_row_with) _ [("index", 2), ("count", 3)]; exact ⟨by rfl, by decide +kernel, by decide +kernel, by decide +kernel, by decide +kernel⟩) (fun _ _ _ _ _ => (gg_tup rfl (ggs_cons (gg_name 2 sc_row_with.nd) (ggs_cons (gg_name 3 sc_row_with.nd) ggs_nil)))) (fun _ _ _ _ _ => (gts_one (gt_cmp op_gt os_gt (ge_var 3) ge_int))) (fun _ _ _ _ _ => (ge_use (ge_tup (gau_cons (ge_use (ge_var 2)) (gau_cons (ge_use (ge_var 3)) gau_nil)))))) (ga_cons (ge_var 1) ga_nil)) (LenIs.cons (LenIs.cons LenIs.nil))))))))

/-! ### counts_of -/
abbrev s_counts_of : Stmt := top 19
theorem sc_counts_of : FnScope ["row"] ["row"] (defScope s_counts_of) := ⟨rfl, rfl, rfl, by decide +kernel, rfl, by decide +kernel, by decide +kernel⟩
theorem ok_counts_of {Pr : Program} {w : World} {K : PySem.W.Frag} {mg : Str → Option Value} {base : Heap} {f : Addr} {fd : FuncData} (F : Fun K "counts_of" "counts_of" s_counts_of f fd) (T : Txt K mg) (hp_Row_contents : HasP Pr w K mg base 1 "Row" "contents" ["self"] f_Row_contents) : FnD Pr w K mg base 3 f fd ["row"] f_counts_of :=
  fnD_of (Pn := [0]) F sc_counts_of (by decide) fun cdv A outer s H E hr hgd =>
  (gss_one (gs_ret (ge_dictc T.z_dict rfl (ga_cons (ge_listc T.z_list (ga_cons (ge_prop hgd hp_Row_contents (hr.mono (by decide)) (ge_var 0)) ga_nil)) ga_nil))))

/-! ### need_capacity -/
abbrev s_need_capacity : Stmt := top 22
theorem sc_need_capacity : FnScope ["value"] ["value"] (defScope s_need_capacity) := ⟨rfl, rfl, rfl, by decide +kernel, rfl, by decide +kernel, by decide +kernel⟩
theorem ok_need_capacity {Pr : Program} {w : World} {K : PySem.W.Frag} {mg : Str → Option Value} {base : Heap} {f : Addr} {fd : FuncData} (F : Fun K "need_capacity" "need_capacity" s_need_capacity f fd) (T : Txt K mg) (h_is_between : Has Pr w K mg base 2 "is_between" ["value", "least", "greatest"] f_is_between []) : FnD Pr w K mg base 3 f fd ["value"] f_need_capacity :=
  fnD_of (Pn := [0]) F sc_need_capacity (by decide) fun cdv A outer s H E hr hgd =>
  (gss_one (gs_if (gt_not (gt_val (ge_fn tkx hgd h_is_between (hr.mono (by decide)) (ga_cons (ge_var 0) (ga_cons ge_int (ga_cons (ge_glob T.c_GREATEST_CAPACITY) ga_nil))))))
  (gss_one (gs_raiseR rfl tkx T.x_BadCapacity))
  gss_nil))

/-! ### passage -/
abbrev s_passage : Stmt := top 23
theorem sc_passage : FnScope ["capacity", "load", "box_capacity", "count", "picked_up", "put_down"] ["capacity", "load", "box_capacity", "count"] (defScope s_passage) := ⟨rfl, rfl, rfl, by decide +kernel, rfl, by decide +kernel, by decide +kernel⟩
theorem ok_passage {Pr : Program} {w : World} {K : PySem.W.Frag} {mg : Str → Option Value} {base : Heap} {f : Addr} {fd : FuncData} (F : Fun K "passage" "passage" s_passage f fd) (T : Txt K mg) : FnD Pr w K mg base 1 f fd ["capacity", "load", "box_capacity", "count"] f_passage :=
  fnD_of (Pn := [0, 1, 2, 3]) F sc_passage (by decide) fun cdv A outer s H E hr hgd =>
  (gss_cons (gs_par 4 5 rfl sc_passage.nd (gau_cons (ge_use (ge_min2 T.z_min rfl (ga_cons (ge_op op_sub os_sub (ge_var 0) (ge_var 1)) (ga_cons (ge_var 3) ga_nil)))) (gau_cons (ge_use (ge_min2 T.z_min rfl (ga_cons (ge_var 1) (ga_cons (ge_op op_sub os_sub (ge_var 2) (ge_var 3)) ga_nil)))) gau_nil)))
  (gss_one (gs_ret (ge_tup (gau_cons (ge_use (ge_op op_addA os_add (ge_op op_sub os_sub (ge_var 3) (ge_var 4)) (ge_var 5))) (gau_cons (ge_use (ge_op op_sub os_sub (ge_op op_addA os_add (ge_var 1) (ge_var 4)) (ge_var 5))) gau_nil))))))

/-! ### steps_along -/
abbrev s_steps_along : Stmt := top 24
theorem sc_steps_along : FnScope ["row", "capacity", "sign", "left", "found", "load", "at", "count", "new_count", "new_load", "index"] ["row", "capacity", "sign"] (defScope s_steps_along) := ⟨rfl, rfl, rfl, by decide +kernel, rfl, by decide +kernel, by decide +kernel⟩
theorem ok_steps_along {Pr : Program} {w : World} {K : PySem.W.Frag} {mg : Str → Option Value} {base : Heap} {f : Addr} {fd : FuncData} (F : Fun K "steps_along" "steps_along" s_steps_along f fd) (T : Txt K mg) (h_passage : Has Pr w K mg base 1 "passage" ["capacity", "load", "box_capacity", "count"] f_passage []) (hp_Row_contents : HasP Pr w K mg base 1 "Row" "contents" ["self"] f_Row_contents) (hm_Row_held : HasM Pr w K mg base 2 "Row" "held" ["self", "index"] f_Row_held []) (hm_Row_capacity : HasM Pr w K mg base 2 "Row" "capacity" ["self", "index"] f_Row_capacity []) : FnD Pr w K mg base 3 f fd ["row", "capacity", "sign"] f_steps_along :=
  fnD_of (Pn := [0, 1, 2]) F sc_steps_along (by decide) fun cdv A outer s H E hr hgd =>
  (gss_cons (gs_set 3 (ge_use (ge_sortA T.z_sorted rfl (ga_cons (ge_lc [("index", 10), ("count", 7)] rfl sc_steps_along.nd (gi_any (ge_use (ge_prop hgd hp_Row_contents (hr.mono (by decide)) (ge_var 0)))) (by show BlkOk ["row", "capacity", "sign", "left", "found", "load", "at", "count", "new_count", "new_load", "index"] (defScope s_steps_along) _ [("index", 10), ("count", 7)]; exact ⟨by rfl, by decide +kernel, by decide +kernel, by decide +kernel, by decide +kernel⟩) (fun _ _ _ _ _ => (gg_tup rfl (ggs_cons (gg_name 10 sc_steps_along.nd) (ggs_cons (gg_name 7 sc_steps_along.nd) ggs_nil)))) (fun _ _ _ _ _ => gts_nil) (fun _ _ _ _ _ => (ge_use (ge_op op_mulA os_mul (ge_var 2) (ge_var 10))))) ga_nil))) sc_steps_along.nd)
  (gss_cons (gs_par3 4 5 6 rfl sc_steps_along.nd (gau_cons (ge_use (ge_list gau_nil)) (gau_cons (ge_use ge_int) (gau_cons (ge_use ge_int) gau_nil))))
  (gss_cons (gs_while pox (gt_w (gw_or (gt_cmp op_gt os_gt (ge_var 5) ge_int) (gw_or1 (gt_cmp (op_neA (hu64 hr)) os_neA (ge_var 3) (ge_list gau_nil) (h1 := fNeA_un1) (h2 := fNeA_un2)))))
  (gss_cons (gs_if (gt_cmp (op_eqA (hu64 hr)) os_eqA (ge_var 5) ge_int (h1 := fEqA_un1) (h2 := fEqA_un2))
  (gss_one (gs_set 6 (ge_use (ge_op op_mulA os_mul (ge_var 2) (ge_ix ix_seq os_ix (ge_var 3) ge_int))) sc_steps_along.nd))
  gss_nil)
  (gss_cons (gs_if (gt_w (gw_and (gt_cmp (op_neA (hu64 hr)) os_neA (ge_var 3) (ge_list gau_nil) (h1 := fNeA_un1) (h2 := fNeA_un2)) (gw_and1 (gt_cmp (op_eqA (hu64 hr)) os_eqA (ge_ix ix_seq os_ix (ge_var 3) ge_int) (ge_op op_mulA os_mul (ge_var 2) (ge_var 6)) (h1 := fEqA_un1) (h2 := fEqA_un2)))))
  (gss_one (gs_set 3 (ge_use (ge_slL (ge_var 3) ge_int)) sc_steps_along.nd))
  gss_nil)
  (gss_cons (gs_set 7 (ge_use (ge_methO tkx hgd hm_Row_held (hr.mono (by decide)) (ge_var 0) (ga_cons (ge_var 6) ga_nil))) sc_steps_along.nd)
  (gss_cons (gs_asg (ge_use (ge_fn tkx hgd h_passage (hr.mono (by decide)) (ga_cons (ge_var 1) (ga_cons (ge_var 5) (ga_cons (ge_methO tkx hgd hm_Row_capacity (hr.mono (by decide)) (ge_var 0) (ga_cons (ge_var 6) ga_nil)) (ga_cons (ge_var 7) ga_nil)))))) (gg_tup rfl (ggs_cons (gg_name 8 sc_steps_along.nd) (ggs_cons (gg_name 9 sc_steps_along.nd) ggs_nil))))
  (gss_cons (gs_drop (ge_meth tyOK_list rfl ms_append PySem.F.plainAttrs_list PySem.F.slot_list_append PySem.F.type_list_append mt_append (ge_var 4) (gau_cons (ge_use (ge_tup (gau_cons (ge_use (ge_var 6)) (gau_cons (ge_use (ge_var 5)) (gau_cons (ge_use (ge_var 7)) (gau_cons (ge_use (ge_var 9)) (gau_cons (ge_use (ge_var 8)) gau_nil))))))) gau_nil)))
  (gss_one (gs_par 5 6 rfl sc_steps_along.nd (gau_cons (ge_use (ge_var 9)) (gau_cons (ge_use (ge_op op_addA os_add (ge_var 6) (ge_var 2))) gau_nil))))))))))
  (gss_one (gs_ret (ge_var 4))))))

/-! ### row_after -/
abbrev s_row_after : Stmt := top 25
theorem sc_row_after : FnScope ["row", "steps", "counts", "at", "load", "count", "new_load", "new_count"] ["row", "steps"] (defScope s_row_after) := ⟨rfl, rfl, rfl, by decide +kernel, rfl, by decide +kernel, by decide +kernel⟩
theorem ok_row_after {Pr : Program} {w : World} {K : PySem.W.Frag} {mg : Str → Option Value} {base : Heap} {f : Addr} {fd : FuncData} (F : Fun K "row_after" "row_after" s_row_after f fd) (T : Txt K mg) (h_counts_of : Has Pr w K mg base 3 "counts_of" ["row"] f_counts_of []) (h_row_with : Has Pr w K mg base 6 "row_with" ["counts", "capacities"] f_row_with []) (hp_Row_capacities : HasP Pr w K mg base 1 "Row" "capacities" ["self"] f_Row_capacities) : FnD Pr w K mg base 7 f fd ["row", "steps"] f_row_after :=
  fnD_of (Pn := [0, 1]) F sc_row_after (by decide) fun cdv A outer s H E hr hgd =>
  (gss_cons (gs_set 2 (ge_use (ge_fn tkx hgd h_counts_of (hr.mono (by decide)) (ga_cons (ge_var 0) ga_nil))) sc_row_after.nd)
  (gss_cons (gs_for pox rfl (gi_any (ge_use (ge_var 1))) (gg_tup rfl (ggs_cons (gg_name 3 sc_row_after.nd) (ggs_cons (gg_name 4 sc_row_after.nd) (ggs_cons (gg_name 5 sc_row_after.nd) (ggs_cons (gg_name 6 sc_row_after.nd) (ggs_cons (gg_name 7 sc_row_after.nd) ggs_nil))))))
  (gss_one (gs_dput (hu1 hr) (ge_var 2) (ge_var 3) (ge_use (ge_var 7)))))
  (gss_one (gs_ret (ge_fn tkx hgd h_row_with (hr.mono (by decide)) (ga_cons (ge_var 2) (ga_cons (ge_prop hgd hp_Row_capacities (hr.mono (by decide)) (ge_var 0)) ga_nil)))))))

/-! ### sweep -/
abbrev s_sweep : Stmt := top 26
theorem sc_sweep : FnScope ["row", "capacity"] ["row", "capacity"] (defScope s_sweep) := ⟨rfl, rfl, rfl, by decide +kernel, rfl, by decide +kernel, by decide +kernel⟩
theorem ok_sweep {Pr : Program} {w : World} {K : PySem.W.Frag} {mg : Str → Option Value} {base : Heap} {f : Addr} {fd : FuncData} (F : Fun K "sweep" "sweep" s_sweep f fd) (T : Txt K mg) (h_need_capacity : Has Pr w K mg base 3 "need_capacity" ["value"] f_need_capacity []) (h_row_after : Has Pr w K mg base 7 "row_after" ["row", "steps"] f_row_after []) (h_steps_along : Has Pr w K mg base 3 "steps_along" ["row", "capacity", "sign"] f_steps_along []) : FnD Pr w K mg base 8 f fd ["row", "capacity"] f_sweep :=
  fnD_of (Pn := [0, 1]) F sc_sweep (by decide) fun cdv A outer s H E hr hgd =>
  (gss_cons (gs_drop (ge_fn tkx hgd h_need_capacity (hr.mono (by decide)) (ga_cons (ge_var 1) ga_nil)))
  (gss_one (gs_ret (ge_fn tkx hgd h_row_after (hr.mono (by decide)) (ga_cons (ge_var 0) (ga_cons (ge_fn tkx hgd h_steps_along (hr.mono (by decide)) (ga_cons (ge_var 0) (ga_cons (ge_var 1) (ga_cons ge_int ga_nil)))) ga_nil))))))

/-! ### unsweep -/
abbrev s_unsweep : Stmt := top 27
theorem sc_unsweep : FnScope ["row", "capacity"] ["row", "capacity"] (defScope s_unsweep) := ⟨rfl, rfl, rfl, by decide +kernel, rfl, by decide +kernel, by decide +kernel⟩
theorem ok_unsweep {Pr : Program} {w : World} {K : PySem.W.Frag} {mg : Str → Option Value} {base : Heap} {f : Addr} {fd : FuncData} (F : Fun K "unsweep" "unsweep" s_unsweep f fd) (T : Txt K mg) (h_need_capacity : Has Pr w K mg base 3 "need_capacity" ["value"] f_need_capacity []) (h_row_after : Has Pr w K mg base 7 "row_after" ["row", "steps"] f_row_after []) (h_steps_along : Has Pr w K mg base 3 "steps_along" ["row", "capacity", "sign"] f_steps_along []) : FnD Pr w K mg base 8 f fd ["row", "capacity"] f_unsweep :=
  fnD_of (Pn := [0, 1]) F sc_unsweep (by decide) fun cdv A outer s H E hr hgd =>
  (gss_cons (gs_drop (ge_fn tkx hgd h_need_capacity (hr.mono (by decide)) (ga_cons (ge_var 1) ga_nil)))
  (gss_one (gs_ret (ge_fn tkx hgd h_row_after (hr.mono (by decide)) (ga_cons (ge_var 0) (ga_cons (ge_fn tkx hgd h_steps_along (hr.mono (by decide)) (ga_cons (ge_var 0) (ga_cons (ge_var 1) (ga_cons (ge_un un_neg us_neg ge_int) ga_nil)))) ga_nil))))))

/-! ### _law_begun -/
abbrev s__law_begun : Stmt := top 29
theorem sc__law_begun : FnScope ["script", "wide", "cell"] ["script"] (defScope s__law_begun) := ⟨rfl, rfl, rfl, by decide +kernel, rfl, by decide +kernel, by decide +kernel⟩
theorem ok__law_begun {Pr : Program} {w : World} {K : PySem.W.Frag} {mg : Str → Option Value} {base : Heap} {f : Addr} {fd : FuncData} (F : Fun K "_law_begun" "_law_begun" s__law_begun f fd) (T : Txt K mg) : FnD Pr w K mg base 1 f fd ["script"] f__law_begun :=
  fnD_of (Pn := [0]) F sc__law_begun (by decide) fun cdv A outer s H E hr hgd =>
  (gss_cons (gs_setLc [("cell", 2)] rfl sc__law_begun.nd rfl rfl rfl rfl (gi_list (ge_use (ge_var 0))) (by show BlkOk ["script", "wide", "cell"] (defScope s__law_begun) _ [("cell", 2)]; exact ⟨by rfl, by decide +kernel, by decide +kernel, by decide +kernel, by decide +kernel⟩) (fun _ _ _ _ _ => (gg_name 2 sc__law_begun.nd)) (fun _ _ _ _ _ => (gts_one (gt_cmp op_ge os_ge (ge_var 2) (ge_op op_pow os_pow ge_int ge_int)))) (fun _ _ _ _ _ => (ge_use (ge_op op_sub os_sub (ge_var 2) (ge_op op_pow os_pow ge_int ge_int)))))
  (gss_one (gs_ret (ge_disp (ps := [(dC (.str "great"), dMv 1), (dC (.str "cells"), dFz (dU (dCall fList (dCons (dVar 0) (dNil))))), (dC (.str "rest"), dC (.int 0)), (dC (.str "turn"), dC (.int 0))]) (pps_cons ge_str (ge_use (geu_ge (ge_mv 1))) (pps_cons ge_str (ge_use (geu_ge (ge_fz (ge_use (ge_listc T.z_list (ga_cons (ge_var 0) ga_nil)))))) (pps_cons ge_str (ge_use ge_int) (pps_cons ge_str (ge_use ge_int) pps_nil))))))))

/-! ### _law_mixed -/
abbrev s__law_mixed : Stmt := top 30
theorem sc__law_mixed : FnScope ["state", "turn", "found", "prime", "blend", "cell"] ["state"] (defScope s__law_mixed) := ⟨rfl, rfl, rfl, by decide +kernel, rfl, by decide +kernel, by decide +kernel⟩
theorem ok__law_mixed {Pr : Program} {w : World} {K : PySem.W.Frag} {mg : Str → Option Value} {base : Heap} {f : Addr} {fd : FuncData} (F : Fun K "_law_mixed" "_law_mixed" s__law_mixed f fd) (T : Txt K mg) : FnD Pr w K mg base 1 f fd ["state"] f__law_mixed :=
  fnD_of (Pn := [0]) F sc__law_mixed (by decide) fun cdv A outer s H E hr hgd =>
  (gss_cons (gs_set 1 (ge_use (ge_op op_addA os_add (ge_dget (hu1 hr) (ge_var 0) ge_str) ge_int)) sc__law_mixed.nd)
  (gss_cons (gs_dput (hu1 hr) (ge_var 0) ge_str (ge_use (ge_var 1)))
  (gss_cons (gs_set 2 (ge_use ge_int) sc__law_mixed.nd)
  (gss_cons (gs_for pox rfl (gi_list (ge_use (ge_list (gau_cons (ge_use ge_int) (gau_cons (ge_use ge_int) (gau_cons (ge_use ge_int) (gau_cons (ge_use ge_int) (gau_cons (ge_use ge_int) (gau_cons (ge_use ge_int) gau_nil))))))))) (gg_name 3 sc__law_mixed.nd)
  (gss_cons (gs_set 4 (ge_use (ge_op op_addA os_add (ge_op op_mulA os_mul ge_int (ge_var 1)) (ge_op op_fdivW os_div (ge_var 3) ge_int))) sc__law_mixed.nd)
  (gss_cons (gs_for pox rfl (gi_list (ge_use (ge_dget (hu1 hr) (ge_var 0) ge_str))) (gg_name 5 sc__law_mixed.nd)
  (gss_one (gs_set 4 (ge_use (ge_op op_mod os_mod (ge_intc T.z_int (ga_cons (ge_op op_addA os_add (ge_op op_mulA os_mul (ge_var 4) ge_int) (ge_var 5)) ga_nil)) (ge_var 3))) sc__law_mixed.nd)))
  (gss_one (gs_set 2 (ge_use (ge_op op_addA os_add (ge_op op_mulA os_mul (ge_var 2) ge_int) (ge_op op_mod os_mod (ge_intc T.z_int (ga_cons (ge_op op_pow os_pow (ge_var 4) ge_int) ga_nil)) (ge_var 3)))) sc__law_mixed.nd)))))
  (gss_one (gs_ret (ge_var 2)))))))

/-! ### _law_take -/
abbrev s__law_take : Stmt := top 31
theorem sc__law_take : FnScope ["state", "size", "found"] ["state", "size"] (defScope s__law_take) := ⟨rfl, rfl, rfl, by decide +kernel, rfl, by decide +kernel, by decide +kernel⟩
theorem ok__law_take {Pr : Program} {w : World} {K : PySem.W.Frag} {mg : Str → Option Value} {base : Heap} {f : Addr} {fd : FuncData} (F : Fun K "_law_take" "_law_take" s__law_take f fd) (T : Txt K mg) (h__law_mixed : Has Pr w K mg base 1 "_law_mixed" ["state"] f__law_mixed []) : FnD Pr w K mg base 2 f fd ["state", "size"] f__law_take :=
  fnD_of (Pn := [0, 1]) F sc__law_take (by decide) fun cdv A outer s H E hr hgd =>
  (gss_cons (gs_if (gt_w (gw_and (gt_cmp (op_eqA (hu64 hr)) os_eqA (ge_dget (hu1 hr) (ge_var 0) ge_str) ge_int (h1 := fEqA_un1) (h2 := fEqA_un2)) (gw_and1 (gt_neNil 0 (hu64 hr)))))
  (gss_one (gs_dput (hu1 hr) (ge_var 0) ge_str (ge_use (ge_pop0 0 (hu1 hr)))))
  (gss_one (gs_if (gt_cmp (op_eqA (hu64 hr)) os_eqA (ge_dget (hu1 hr) (ge_var 0) ge_str) ge_int (h1 := fEqA_un1) (h2 := fEqA_un2))
  (gss_one (gs_dput (hu1 hr) (ge_var 0) ge_str (ge_use (ge_fn tkx hgd h__law_mixed (hr.mono (by decide)) (ga_cons (ge_var 0) ga_nil)))))
  gss_nil)))
  (gss_cons (gs_set 2 (ge_use (ge_op op_mod os_mod (ge_intc T.z_int (ga_cons (ge_dget (hu1 hr) (ge_var 0) ge_str) ga_nil)) (ge_var 1))) sc__law_take.nd)
  (gss_cons (gs_dput (hu1 hr) (ge_var 0) ge_str (ge_use (ge_op op_fdivW os_div (ge_dget (hu1 hr) (ge_var 0) ge_str) (ge_var 1))))
  (gss_one (gs_ret (ge_var 2))))))

/-! ### _law_pick -/
abbrev s__law_pick : Stmt := top 32
theorem sc__law_pick : FnScope ["state", "some"] ["state", "some"] (defScope s__law_pick) := ⟨rfl, rfl, rfl, by decide +kernel, rfl, by decide +kernel, by decide +kernel⟩
theorem ok__law_pick {Pr : Program} {w : World} {K : PySem.W.Frag} {mg : Str → Option Value} {base : Heap} {f : Addr} {fd : FuncData} (F : Fun K "_law_pick" "_law_pick" s__law_pick f fd) (T : Txt K mg) (h__law_take : Has Pr w K mg base 2 "_law_take" ["state", "size"] f__law_take []) : FnD Pr w K mg base 3 f fd ["state", "some"] f__law_pick :=
  fnD_of (Pn := [0, 1]) F sc__law_pick (by decide) fun cdv A outer s H E hr hgd =>
  (gss_one (gs_ret (ge_ix ix_seq os_ix (ge_var 1) (ge_fn tkx hgd h__law_take (hr.mono (by decide)) (ga_cons (ge_var 0) (ga_cons (ge_len T.z_len (ga_cons (ge_var 1) ga_nil)) ga_nil))))))

/-! ### _law_shuffled -/
abbrev s__law_shuffled : Stmt := top 33
theorem sc__law_shuffled : FnScope ["state", "some", "spare", "found"] ["state", "some"] (defScope s__law_shuffled) := ⟨rfl, rfl, rfl, by decide +kernel, rfl, by decide +kernel, by decide +kernel⟩
theorem ok__law_shuffled {Pr : Program} {w : World} {K : PySem.W.Frag} {mg : Str → Option Value} {base : Heap} {f : Addr} {fd : FuncData} (F : Fun K "_law_shuffled" "_law_shuffled" s__law_shuffled f fd) (T : Txt K mg) (h__law_take : Has Pr w K mg base 2 "_law_take" ["state", "size"] f__law_take []) : FnD Pr w K mg base 3 f fd ["state", "some"] f__law_shuffled :=
  fnD_of (Pn := [0, 1]) F sc__law_shuffled (by decide) fun cdv A outer s H E hr hgd =>
  (gss_cons (gs_par 2 3 rfl sc__law_shuffled.nd (gau_cons (ge_use (ge_listc T.z_list (ga_cons (ge_var 1) ga_nil))) (gau_cons (ge_use (ge_list gau_nil)) gau_nil)))
  (gss_cons (gs_while pox (gt_cmp (op_neA (hu64 hr)) os_neA (ge_var 2) (ge_list gau_nil) (h1 := fNeA_un1) (h2 := fNeA_un2))
  (gss_one (gs_drop (ge_meth tyOK_list rfl ms_append PySem.F.plainAttrs_list PySem.F.slot_list_append PySem.F.type_list_append mt_append (ge_var 3) (gau_cons (ge_use (ge_meth tyOK_list rfl ms_popAt PySem.F.plainAttrs_list PySem.F.slot_list_pop PySem.F.type_list_pop mt_popAt (ge_var 2) (gau_cons (ge_use (ge_fn tkx hgd h__law_take (hr.mono (by decide)) (ga_cons (ge_var 0) (ga_cons (ge_lenA T.z_len (ga_cons (ge_var 2) ga_nil)) ga_nil)))) gau_nil))) gau_nil)))))
  (gss_one (gs_ret (ge_var 3)))))

/-! ### _law_sizes -/
abbrev s__law_sizes : Stmt := top 34
theorem sc__law_sizes : FnScope ["state", "most", "found", "turn", "place"] ["state", "most"] (defScope s__law_sizes) := ⟨rfl, rfl, rfl, by decide +kernel, rfl, by decide +kernel, by decide +kernel⟩
theorem ok__law_sizes {Pr : Program} {w : World} {K : PySem.W.Frag} {mg : Str → Option Value} {base : Heap} {f : Addr} {fd : FuncData} (F : Fun K "_law_sizes" "_law_sizes" s__law_sizes f fd) (T : Txt K mg) (h__law_pick : Has Pr w K mg base 3 "_law_pick" ["state", "some"] f__law_pick []) (h__law_take : Has Pr w K mg base 2 "_law_take" ["state", "size"] f__law_take []) : FnD Pr w K mg base 4 f fd ["state", "most"] f__law_sizes :=
  fnD_of (Pn := [0, 1]) F sc__law_sizes (by decide) fun cdv A outer s H E hr hgd =>
  (gss_cons (gs_set 2 (ge_use ge_dnew) sc__law_sizes.nd)
  (gss_cons (gs_for pox rfl (gi_rng1 T.z_range (ga_cons (ge_fn tkx hgd h__law_take (hr.mono (by decide)) (ga_cons (ge_var 0) (ga_cons (ge_op op_addA os_add (ge_var 1) ge_int) ga_nil))) ga_nil)) (gg_name 3 sc__law_sizes.nd)
  (gss_one (gs_dput (hu1 hr) (ge_var 2) (ge_fn tkx hgd h__law_pick (hr.mono (by decide)) (ga_cons (ge_var 0) (ga_cons (ge_list (gau_cons (ge_use (ge_op op_sub os_sub (ge_fn tkx hgd h__law_take (hr.mono (by decide)) (ga_cons (ge_var 0) (ga_cons ge_int ga_nil))) ge_int)) (gau_cons (ge_use (ge_op op_sub os_sub (ge_fn tkx hgd h__law_take (hr.mono (by decide)) (ga_cons (ge_var 0) (ga_cons ge_int ga_nil))) ge_int)) (gau_cons (ge_use ge_int) (gau_cons (ge_use (ge_un un_neg us_neg ge_int)) gau_nil))))) ga_nil))) (ge_use (ge_op op_addA os_add ge_int (ge_fn tkx hgd h__law_take (hr.mono (by decide)) (ga_cons (ge_var 0) (ga_cons ge_int ga_nil))))))))
  (gss_one (gs_ret (ge_dictc T.z_dict rfl (ga_cons (ge_lc [("place", 4)] rfl sc__law_sizes.nd (gi_any (ge_use (ge_sortA T.z_sorted rfl (ga_cons (ge_var 2) ga_nil)))) (by show BlkOk ["state", "most", "found", "turn", "place"] (defScope s__law_sizes) _ [("place", 4)]; exact ⟨by rfl, by decide +kernel, by decide +kernel, by decide +kernel, by decide +kernel⟩) (fun _ _ _ _ _ => (gg_name 4 sc__law_sizes.nd)) (fun _ _ _ _ _ => gts_nil) (fun _ _ _ _ _ => (ge_use (ge_tup (gau_cons (ge_use (ge_var 4)) (gau_cons (ge_use (ge_dget (hu1 hr) (ge_var 2) (ge_var 4))) gau_nil)))))) ga_nil))))))

/-! ### _law_boxes -/
abbrev s__law_boxes : Stmt := top 35
theorem sc__law_boxes : FnScope ["state", "sizes", "most", "place", "found", "spare", "turn", "step", "amount"] ["state", "sizes", "most"] (defScope s__law_boxes) := ⟨rfl, rfl, rfl, by decide +kernel, rfl, by decide +kernel, by decide +kernel⟩
theorem ok__law_boxes {Pr : Program} {w : World} {K : PySem.W.Frag} {mg : Str → Option Value} {base : Heap} {f : Addr} {fd : FuncData} (F : Fun K "_law_boxes" "_law_boxes" s__law_boxes f fd) (T : Txt K mg) (h__law_pick : Has Pr w K mg base 3 "_law_pick" ["state", "some"] f__law_pick []) (h__law_take : Has Pr w K mg base 2 "_law_take" ["state", "size"] f__law_take []) : FnD Pr w K mg base 4 f fd ["state", "sizes", "most"] f__law_boxes :=
  fnD_of (Pn := [0, 1, 2]) F sc__law_boxes (by decide) fun cdv A outer s H E hr hgd =>
  (gss_cons (gs_parC3 3 4 5 rfl sc__law_boxes.nd (gau_cons (ge_use (ge_fn tkx hgd h__law_pick (hr.mono (by decide)) (ga_cons (ge_var 0) (ga_cons (ge_list (gau_cons (ge_use ge_int) (gau_cons (ge_use ge_int) (gau_cons (ge_use (ge_un un_neg us_neg ge_int)) (gau_cons (ge_use (ge_un un_neg us_neg ge_int)) (gau_cons (ge_use ge_int) (gau_cons (ge_use (ge_op op_pow os_pow ge_int ge_int)) (gau_cons (ge_use (ge_un un_neg us_neg (ge_op op_pow os_pow ge_int ge_int))) gau_nil)))))))) ga_nil)))) (gau_cons (ge_use ge_dnew) (gau_cons (ge_use (ge_var 2)) gau_nil))))
  (gss_cons (gs_for pox rfl (gi_rng1 T.z_range (ga_cons (ge_fn tkx hgd h__law_take (hr.mono (by decide)) (ga_cons (ge_var 0) (ga_cons ge_int ga_nil))) ga_nil)) (gg_name 6 sc__law_boxes.nd)
  (gss_cons (gs_for pox rfl (gi_rng1 T.z_range (ga_cons (ge_op op_addA os_add ge_int (ge_fn tkx hgd h__law_take (hr.mono (by decide)) (ga_cons (ge_var 0) (ga_cons ge_int ga_nil)))) ga_nil)) (gg_name 7 sc__law_boxes.nd)
  (gss_cons (gs_set 8 (ge_use (ge_min2 T.z_min rfl (ga_cons (ge_var 5) (ga_cons (ge_op op_addA os_add ge_int (ge_fn tkx hgd h__law_take (hr.mono (by decide)) (ga_cons (ge_var 0) (ga_cons (ge_get2 (hu1 hr) (ge_var 1) (ge_var 3) ge_int) ga_nil)))) ga_nil)))) sc__law_boxes.nd)
  (gss_cons (gs_if (gt_cmp op_gt os_gt (ge_var 8) ge_int)
  (gss_one (gs_dput (hu1 hr) (ge_var 4) (ge_var 3) (ge_use (ge_var 8))))
  gss_nil)
  (gss_one (gs_par 5 3 rfl sc__law_boxes.nd (gau_cons (ge_use (ge_op op_sub os_sub (ge_var 5) (ge_var 8))) (gau_cons (ge_use (ge_op op_addA os_add (ge_var 3) ge_int)) gau_nil)))))))
  (gss_one (gs_set 3 (ge_use (ge_op op_addA os_add (ge_var 3) (ge_fn tkx hgd h__law_pick (hr.mono (by decide)) (ga_cons (ge_var 0) (ga_cons (ge_list (gau_cons (ge_use ge_int) (gau_cons (ge_use ge_int) (gau_cons (ge_use ge_int) (gau_cons (ge_use ge_int) (gau_cons (ge_use ge_int) (gau_cons (ge_use ge_int) (gau_cons (ge_use (ge_op op_pow os_pow ge_int ge_int)) gau_nil)))))))) ga_nil))))) sc__law_boxes.nd))))
  (gss_cons (gs_for pox rfl (gi_any (ge_use (ge_var 1))) (gg_name 3 sc__law_boxes.nd)
  (gss_cons (gs_set 8 (ge_use (ge_min2 T.z_min rfl (ga_cons (ge_var 5) (ga_cons (ge_fn tkx hgd h__law_take (hr.mono (by decide)) (ga_cons (ge_var 0) (ga_cons (ge_op op_addA os_add (ge_dget (hu1 hr) (ge_var 1) (ge_var 3)) ge_int) ga_nil))) ga_nil)))) sc__law_boxes.nd)
  (gss_one (gs_if (gt_w (gw_and (gt_cmp (op_notInA (hu1 hr)) os_notIn (ge_var 3) (ge_var 4) (h1 := fNotIn_un1) (h2 := fNotIn_un2)) (gw_and1 (gt_cmp op_gt os_gt (ge_var 8) ge_int))))
  (gss_one (gs_asg (ge_use (ge_tup (gau_cons (ge_use (ge_var 8)) (gau_cons (ge_use (ge_op op_sub os_sub (ge_var 5) (ge_var 8))) gau_nil)))) (gg_tup rfl (ggs_cons (gg_subD (hu1 hr) (ge_var 4) (ge_var 3)) (ggs_cons (gg_name 5 sc__law_boxes.nd) ggs_nil)))))
  gss_nil))))
  (gss_one (gs_ret (ge_dictc T.z_dict rfl (ga_cons (ge_lc [("place", 3)] rfl sc__law_boxes.nd (gi_any (ge_use (ge_sortA T.z_sorted rfl (ga_cons (ge_var 4) ga_nil)))) (by show BlkOk ["state", "sizes", "most", "place", "found", "spare", "turn", "step", "amount"] (defScope s__law_boxes) _ [("place", 3)]; exact ⟨by rfl, by decide +kernel, by decide +kernel, by decide +kernel, by decide +kernel⟩) (fun _ _ _ _ _ => (gg_name 3 sc__law_boxes.nd)) (fun _ _ _ _ _ => gts_nil) (fun _ _ _ _ _ => (ge_use (ge_tup (gau_cons (ge_use (ge_var 3)) (gau_cons (ge_use (ge_dget (hu1 hr) (ge_var 4) (ge_var 3))) gau_nil)))))) ga_nil)))))))

/-! ### _law_crowd -/
abbrev s__law_crowd : Stmt := top 36
theorem sc__law_crowd : FnScope ["state", "place", "found", "turn"] ["state"] (defScope s__law_crowd) := ⟨rfl, rfl, rfl, by decide +kernel, rfl, by decide +kernel, by decide +kernel⟩
def b__law_crowd_1 : Sn := nPar 1 2 (dCons (dU (dOp fSub (dFn 2 f__law_take [] (dCons (dVar 0) (dCons (dC (.int 30)) (dNil)))) (dC (.int 20)))) (dCons (dU (dC (.dct true [] []))) (dNil)))
def b__law_crowd_2_1 : Sn := nDput (dC (.int 1)) (dVar 2) (dVar 1)
def b__law_crowd_2_2 : Sn := nAsg 1 (dOp fAdd (dOp fAdd (dVar 1) (dC (.int 1))) (dFn 2 f__law_pick [] (dCons (dVar 0) (dCons (dLst (dCons (dU (dC (.int 0))) (dCons (dU (dC (.int 0))) (dCons (dU (dC (.int 1))) (dCons (dU (dC (.int 1))) (dCons (dU (dC (.int 2))) (dCons (dU (dC (.int 5))) (dNil)))))))) (dNil)))))
def b__law_crowd_2_b : Sn := nSeq b__law_crowd_2_1 (b__law_crowd_2_2)
def b__law_crowd_2 : Sn := nFor (itRng1 (dCons (dOp fAdd (dC (.int 34)) (dFn 2 f__law_take [] (dCons (dVar 0) (dCons (dC (.int 7)) (dNil))))) (dNil))) (tgName 3)
  (b__law_crowd_2_b)
def b__law_crowd_3 : Sn := nRet (dVar 2)
def b__law_crowd : Sn := nSeq b__law_crowd_1 (nSeq b__law_crowd_2 (b__law_crowd_3))
def f__law_crowd : List D → FR := fdOf [0] 4 b__law_crowd
theorem ok__law_crowd {Pr : Program} {w : World} {K : PySem.W.Frag} {mg : Str → Option Value} {base : Heap} {f : Addr} {fd : FuncData} (F : Fun K "_law_crowd" "_law_crowd" s__law_crowd f fd) (T : Txt K mg) (h__law_pick : Has Pr w K mg base 3 "_law_pick" ["state", "some"] f__law_pick []) (h__law_take : Has Pr w K mg base 2 "_law_take" ["state", "size"] f__law_take []) : FnD Pr w K mg base 4 f fd ["state"] f__law_crowd :=
  fnD_of (Pn := [0]) F sc__law_crowd (by decide) fun cdv A outer s H E hr hgd =>
  (gss_cons (gs_par 1 2 rfl sc__law_crowd.nd (gau_cons (ge_use (ge_op op_sub os_sub (ge_fn tkx hgd h__law_take (hr.mono (by decide)) (ga_cons (ge_var 0) (ga_cons ge_int ga_nil))) ge_int)) (gau_cons (ge_use ge_dnew) gau_nil)))
  (gss_cons (gs_for pox rfl (gi_rng1 T.z_range (ga_cons (ge_op op_addA os_add ge_int (ge_fn tkx hgd h__law_take (hr.mono (by decide)) (ga_cons (ge_var 0) (ga_cons ge_int ga_nil)))) ga_nil)) (gg_name 3 sc__law_crowd.nd)
  (gss_cons (gs_dput (hu1 hr) (ge_var 2) (ge_var 1) (ge_use ge_int))
  (gss_one (gs_set 1 (ge_use (ge_op op_addA os_add (ge_op op_addA os_add (ge_var 1) ge_int) (ge_fn tkx hgd h__law_pick (hr.mono (by decide)) (ga_cons (ge_var 0) (ga_cons (ge_list (gau_cons (ge_use ge_int) (gau_cons (ge_use ge_int) (gau_cons (ge_use ge_int) (gau_cons (ge_use ge_int) (gau_cons (ge_use ge_int) (gau_cons (ge_use ge_int) gau_nil))))))) ga_nil))))) sc__law_crowd.nd))))
  (gss_one (gs_ret (ge_var 2)))))

/-! ### _law_made -/
abbrev s__law_made : Stmt := top 37
theorem sc__law_made : FnScope ["boxes", "sizes"] ["boxes", "sizes"] (defScope s__law_made) := ⟨rfl, rfl, rfl, by decide +kernel, rfl, by decide +kernel, by decide +kernel⟩
theorem ok__law_made {Pr : Program} {w : World} {K : PySem.W.Frag} {mg : Str → Option Value} {base : Heap} {f : Addr} {fd : FuncData} (F : Fun K "_law_made" "_law_made" s__law_made f fd) (T : Txt K mg) (hc_Row_2 : HasC Pr w K mg base 4 "Row" ["self", "contents", "capacities"] f_Row_init []) : FnD Pr w K mg base 6 f fd ["boxes", "sizes"] f__law_made :=
  fnD_of (Pn := [0, 1]) F sc__law_made (by decide) fun cdv A outer s H E hr hgd =>
  (gss_one (gs_ret (geu_ge (ge_fz (ge_use (ge_mk tkx hgd hc_Row_2 (hr.mono (by decide)) (ga_cons (ge_items T.z_list rfl (ge_var 0)) (ga_cons (ge_items T.z_list rfl (ge_var 1)) ga_nil)) (LenIs.cons (LenIs.cons LenIs.nil))))))))

/-! ### _law_done -/
abbrev s__law_done : Stmt := top 38
theorem sc__law_done : FnScope ["made", "some", "here", "most", "is_back"] ["made", "some"] (defScope s__law_done) := ⟨rfl, rfl, rfl, by decide +kernel, rfl, by decide +kernel, by decide +kernel⟩
def b__law_done_1 : Sn := nAsg 2 (dVar 0)
def b__law_done_2_1 : Sn := nAsg 2 (dIf (dTest (dVar 4)) (dFn 2 f_unsweep [] (dCons (dVar 2) (dCons (dVar 3) (dNil)))) (dFn 2 f_sweep [] (dCons (dVar 2) (dCons (dVar 3) (dNil)))))
def b__law_done_2_b : Sn := b__law_done_2_1
def b__law_done_2 : Sn := nFor (itAny (dVar 1)) (tgTup [tgName 3, tgName 4])
  (b__law_done_2_b)
def b__law_done_3 : Sn := nRet (dVar 2)
def b__law_done : Sn := nSeq b__law_done_1 (nSeq b__law_done_2 (b__law_done_3))
def f__law_done : List D → FR := fdOf [0, 1] 5 b__law_done
theorem ok__law_done {Pr : Program} {w : World} {K : PySem.W.Frag} {mg : Str → Option Value} {base : Heap} {f : Addr} {fd : FuncData} (F : Fun K "_law_done" "_law_done" s__law_done f fd) (T : Txt K mg) (h_sweep : Has Pr w K mg base 8 "sweep" ["row", "capacity"] f_sweep []) (h_unsweep : Has Pr w K mg base 8 "unsweep" ["row", "capacity"] f_unsweep []) : FnD Pr w K mg base 9 f fd ["made", "some"] f__law_done :=
  fnD_of (Pn := [0, 1]) F sc__law_done (by decide) fun cdv A outer s H E hr hgd =>
  (gss_cons (gs_set 2 (ge_use (ge_var 0)) sc__law_done.nd)
  (gss_cons (gs_for pox rfl (gi_any (ge_use (ge_var 1))) (gg_tup rfl (ggs_cons (gg_name 3 sc__law_done.nd) (ggs_cons (gg_name 4 sc__law_done.nd) ggs_nil)))
  (gss_one (gs_set 2 (ge_use (ge_if (gt_val (ge_var 4)) (ge_fn tkx hgd h_unsweep (hr.mono (by decide)) (ga_cons (ge_var 2) (ga_cons (ge_var 3) ga_nil))) (ge_fn tkx hgd h_sweep (hr.mono (by decide)) (ga_cons (ge_var 2) (ga_cons (ge_var 3) ga_nil))))) sc__law_done.nd)))
  (gss_one (gs_ret (ge_var 2)))))

/-! ### law -/
abbrev s_law : Stmt := top 39
theorem sc_law : FnScope ["script", "state", "turn", "sizes", "is_crowd", "made", "some", "step", "last", "most", "pair"] ["script"] (defScope s_law) := ⟨rfl, rfl, rfl, by decide +kernel, rfl, by decide +kernel, by decide +kernel⟩
def b_law_1 : Sn := nAsg 1 (dFn 1 f__law_begun [] (dCons (dVar 0) (dNil)))
def b_law_2_1 : Sn := nAsg 3 (dFn 2 f__law_sizes [] (dCons (dVar 1) (dCons (dC (.int 6)) (dNil))))
def b_law_2_2 : Sn := nAsg 4 (dOp (fEqX "Row" f_Row_eq) (dFn 2 f__law_take [] (dCons (dVar 1) (dCons (dC (.int 8)) (dNil)))) (dC (.int 0)))
def b_law_2_3 : Sn := nAsg 5 (dIf (dTest (dVar 4)) (dFn 1 f__law_crowd [] (dCons (dVar 1) (dNil))) (dFn 3 f__law_boxes [] (dCons (dVar 1) (dCons (dVar 3) (dCons (dFn 2 f__law_pick [] (dCons (dVar 1) (dCons (dLst (dCons (dU (dC (.int 4))) (dCons (dU (dC (.int 12))) (dCons (dU (dC (.int 20))) (dNil))))) (dNil)))) (dNil))))))
def b_law_2_4 : Sn := nAsg 5 (dFn 2 f__law_made [] (dCons (dVar 5) (dCons (dVar 3) (dNil))))
def b_law_2_5 : Sn := nAsg 6 (dLst (dNil))
def b_law_2_6_1 : Sn := nDrop (dMeth isL mAppend (dVar 6) (dCons (dU (dTup (dCons (dU (dFn 2 f__law_pick [] (dCons (dVar 1) (dCons (dLst (dCons (dU (dC (.int 1))) (dCons (dU (dC (.int 1))) (dCons (dU (dC (.int 2))) (dCons (dU (dC (.int 3))) (dCons (dU (dC (.int 4))) (dCons (dU (dC (.int 9))) (dCons (dU (dC (.int 99))) (dNil))))))))) (dNil))))) (dCons (dU (dOp (fEqX "Row" f_Row_eq) (dFn 2 f__law_take [] (dCons (dVar 1) (dCons (dC (.int 3)) (dNil)))) (dC (.int 0)))) (dNil))))) (dNil)))
def b_law_2_6_b : Sn := b_law_2_6_1
def b_law_2_6 : Sn := nFor (itRng1 (dCons (dFn 2 f__law_take [] (dCons (dVar 1) (dCons (dC (.int 8)) (dNil)))) (dNil))) (tgName 7)
  (b_law_2_6_b)
def b_law_2_7 : Sn := nAsg 8 (dFn 2 f__law_done [] (dCons (dVar 5) (dCons (dVar 6) (dNil))))
def b_law_2_8 : Sn := nIf (dOr (dTest (dOp (fNeX "Row" f_Row_eq) (dFn 2 f__law_done [] (dCons (dVar 5) (dCons (dFn 2 f__law_shuffled [] (dCons (dVar 1) (dCons (dVar 6) (dNil)))) (dNil)))) (dVar 8))) (dTest (dOp (fNeX "Row" f_Row_eq) (dMethO "Row" "total" 1 f_Row_total [] (dVar 8) dNil) (dMethO "Row" "total" 1 f_Row_total [] (dVar 5) dNil))))
  (nRet (dC (.bl false)))
  (nSkip)
def b_law_2_9 : Sn := nAsg 9 (dFn 2 f__law_pick [] (dCons (dVar 1) (dCons (dLst (dCons (dU (dC (.int 1))) (dCons (dU (dC (.int 2))) (dCons (dU (dC (.int 5))) (dCons (dU (dC (.int 40))) (dNil)))))) (dNil))))
def b_law_2_10 : Sn := nAsg 10 (dFn 2 f__law_shuffled [] (dCons (dVar 1) (dCons (dOp fAdd (dLst (dCons (dU (dTup (dCons (dU (dVar 9)) (dCons (dU (dC (.bl true))) (dNil))))) (dCons (dU (dTup (dCons (dU (dVar 9)) (dCons (dU (dC (.bl false))) (dNil))))) (dNil)))) (dVar 6)) (dNil))))
def b_law_2_11 : Sn := nIf (dTest (dOp (fNeX "Row" f_Row_eq) (dFn 2 f__law_done [] (dCons (dVar 5) (dCons (dVar 10) (dNil)))) (dVar 8)))
  (nRet (dC (.bl false)))
  (nSkip)
def b_law_2_b : Sn := nSeq b_law_2_1 (nSeq b_law_2_2 (nSeq b_law_2_3 (nSeq b_law_2_4 (nSeq b_law_2_5 (nSeq b_law_2_6 (nSeq b_law_2_7 (nSeq b_law_2_8 (nSeq b_law_2_9 (nSeq b_law_2_10 (b_law_2_11))))))))))
def b_law_2 : Sn := nFor (itRng1 (dCons (dOp fAdd (dC (.int 3)) (dCall fMin2 (dCons (dCall fLenA (dCons (dVar 0) (dNil))) (dCons (dC (.int 4)) (dNil))))) (dNil))) (tgName 2)
  (b_law_2_b)
def b_law_3 : Sn := nRet (dC (.bl true))
def b_law : Sn := nSeq b_law_1 (nSeq b_law_2 (b_law_3))
def f_law : List D → FR := fdOf [0] 11 b_law
theorem ok_law {Pr : Program} {w : World} {K : PySem.W.Frag} {mg : Str → Option Value} {base : Heap} {f : Addr} {fd : FuncData} (F : Fun K "law" "law" s_law f fd) (T : Txt K mg) (h__law_begun : Has Pr w K mg base 1 "_law_begun" ["script"] f__law_begun []) (h__law_boxes : Has Pr w K mg base 4 "_law_boxes" ["state", "sizes", "most"] f__law_boxes []) (h__law_crowd : Has Pr w K mg base 4 "_law_crowd" ["state"] f__law_crowd []) (h__law_done : Has Pr w K mg base 9 "_law_done" ["made", "some"] f__law_done []) (h__law_made : Has Pr w K mg base 6 "_law_made" ["boxes", "sizes"] f__law_made []) (h__law_pick : Has Pr w K mg base 3 "_law_pick" ["state", "some"] f__law_pick []) (h__law_shuffled : Has Pr w K mg base 3 "_law_shuffled" ["state", "some"] f__law_shuffled []) (h__law_sizes : Has Pr w K mg base 4 "_law_sizes" ["state", "most"] f__law_sizes []) (h__law_take : Has Pr w K mg base 2 "_law_take" ["state", "size"] f__law_take []) (he_Row : EqC Pr w K mg base 3 "Row" f_Row_eq) (hm_Row_total : HasM Pr w K mg base 3 "Row" "total" ["self"] f_Row_total []) : FnD Pr w K mg base 10 f fd ["script"] f_law :=
  fnD_of (Pn := [0]) F sc_law (by decide) fun cdv A outer s H E hr hgd =>
  (gss_cons (gs_set 1 (ge_use (ge_fn tkx hgd h__law_begun (hr.mono (by decide)) (ga_cons (ge_var 0) ga_nil))) sc_law.nd)
  (gss_cons (gs_for pox rfl (gi_rng1 T.z_range (ga_cons (ge_op op_addA os_add ge_int (ge_min2 T.z_min rfl (ga_cons (ge_lenA T.z_len (ga_cons (ge_var 0) ga_nil)) (ga_cons ge_int ga_nil)))) ga_nil)) (gg_name 2 sc_law.nd)
  (gss_cons (gs_set 3 (ge_use (ge_fn tkx hgd h__law_sizes (hr.mono (by decide)) (ga_cons (ge_var 1) (ga_cons ge_int ga_nil)))) sc_law.nd)
  (gss_cons (gs_set 4 (ge_use (ge_eqX hgd he_Row (hr.mono (by decide)) (hu64 hr) (ge_fn tkx hgd h__law_take (hr.mono (by decide)) (ga_cons (ge_var 1) (ga_cons ge_int ga_nil))) ge_int)) sc_law.nd)
  (gss_cons (gs_set 5 (ge_use (ge_if (gt_val (ge_var 4)) (ge_fn tkx hgd h__law_crowd (hr.mono (by decide)) (ga_cons (ge_var 1) ga_nil)) (ge_fn tkx hgd h__law_boxes (hr.mono (by decide)) (ga_cons (ge_var 1) (ga_cons (ge_var 3) (ga_cons (ge_fn tkx hgd h__law_pick (hr.mono (by decide)) (ga_cons (ge_var 1) (ga_cons (ge_list (gau_cons (ge_use ge_int) (gau_cons (ge_use ge_int) (gau_cons (ge_use ge_int) gau_nil)))) ga_nil))) ga_nil)))))) sc_law.nd)
  (gss_cons (gs_set 5 (ge_use (ge_fn tkx hgd h__law_made (hr.mono (by decide)) (ga_cons (ge_var 5) (ga_cons (ge_var 3) ga_nil)))) sc_law.nd)
  (gss_cons (gs_set 6 (ge_use (ge_list gau_nil)) sc_law.nd)
  (gss_cons (gs_for pox rfl (gi_rng1 T.z_range (ga_cons (ge_fn tkx hgd h__law_take (hr.mono (by decide)) (ga_cons (ge_var 1) (ga_cons ge_int ga_nil))) ga_nil)) (gg_name 7 sc_law.nd)
  (gss_one (gs_drop (ge_meth tyOK_list rfl ms_append PySem.F.plainAttrs_list PySem.F.slot_list_append PySem.F.type_list_append mt_append (ge_var 6) (gau_cons (ge_use (ge_tup (gau_cons (ge_use (ge_fn tkx hgd h__law_pick (hr.mono (by decide)) (ga_cons (ge_var 1) (ga_cons (ge_list (gau_cons (ge_use ge_int) (gau_cons (ge_use ge_int) (gau_cons (ge_use ge_int) (gau_cons (ge_use ge_int) (gau_cons (ge_use ge_int) (gau_cons (ge_use ge_int) (gau_cons (ge_use ge_int) gau_nil)))))))) ga_nil)))) (gau_cons (ge_use (ge_eqX hgd he_Row (hr.mono (by decide)) (hu64 hr) (ge_fn tkx hgd h__law_take (hr.mono (by decide)) (ga_cons (ge_var 1) (ga_cons ge_int ga_nil))) ge_int)) gau_nil)))) gau_nil)))))
  (gss_cons (gs_set 8 (ge_use (ge_fn tkx hgd h__law_done (hr.mono (by decide)) (ga_cons (ge_var 5) (ga_cons (ge_var 6) ga_nil)))) sc_law.nd)
  (gss_cons (gs_if (gt_w (gw_or (gt_neX hgd he_Row (hr.mono (by decide)) (hu64 hr) (ge_fn tkx hgd h__law_done (hr.mono (by decide)) (ga_cons (ge_var 5) (ga_cons (ge_fn tkx hgd h__law_shuffled (hr.mono (by decide)) (ga_cons (ge_var 1) (ga_cons (ge_var 6) ga_nil))) ga_nil))) (ge_var 8)) (gw_or1 (gt_neX hgd he_Row (hr.mono (by decide)) (hu64 hr) (ge_methO0 tkx hgd hm_Row_total (hr.mono (by decide)) (ge_var 8)) (ge_methO0 tkx hgd hm_Row_total (hr.mono (by decide)) (ge_var 5))))))
  (gss_one (gs_ret ge_bl))
  gss_nil)
  (gss_cons (gs_set 9 (ge_use (ge_fn tkx hgd h__law_pick (hr.mono (by decide)) (ga_cons (ge_var 1) (ga_cons (ge_list (gau_cons (ge_use ge_int) (gau_cons (ge_use ge_int) (gau_cons (ge_use ge_int) (gau_cons (ge_use ge_int) gau_nil))))) ga_nil)))) sc_law.nd)
  (gss_cons (gs_set 10 (ge_use (ge_fn tkx hgd h__law_shuffled (hr.mono (by decide)) (ga_cons (ge_var 1) (ga_cons (ge_op op_addA os_add (ge_list (gau_cons (ge_use (ge_tup (gau_cons (ge_use (ge_var 9)) (gau_cons (ge_use ge_bl) gau_nil)))) (gau_cons (ge_use (ge_tup (gau_cons (ge_use (ge_var 9)) (gau_cons (ge_use ge_bl) gau_nil)))) gau_nil))) (ge_var 6)) ga_nil)))) sc_law.nd)
  (gss_one (gs_if (gt_neX hgd he_Row (hr.mono (by decide)) (hu64 hr) (ge_fn tkx hgd h__law_done (hr.mono (by decide)) (ga_cons (ge_var 5) (ga_cons (ge_var 10) ga_nil))) (ge_var 8))
  (gss_one (gs_ret ge_bl))
  gss_nil)))))))))))))
  (gss_one (gs_ret ge_bl))))
end
end K18
set_option Elab.async false
set_option linter.all false
set_option maxRecDepth 100000
set_option maxHeartbeats 400000
/-! DRb: dicts of ints as trees; comprehensions; what makes a row. -/
namespace DL
open PySem L2
/-- keys, values of a dict -/
def kI (m : PL) : List Key := m.map fun p => .inl p.1
def vI (m : PL) : List D := m.map fun p => .int p.2
def pI (m : PL) : List D := m.map prD
theorem iD_eq (o : Bool) (m : PL) : iD o m = .dct o (kI m) (vI m) := rfl
section
variable {m : PL} {o : Bool} {k v z : Int} {p : Int × Int}
@[simp] theorem frozL_vI : ∀ {m : PL}, frozL (vI m) = true
  | [] => rfl
  | p :: m => by show frozL (.int p.2 :: vI m) = true; rw [frozL_cons, frozL_vI]; rfl
@[simp] theorem fzL_vI : ∀ {m : PL}, fzL (vI m) = vI m
  | [] => rfl
  | p :: m => by show fzL (.int p.2 :: vI m) = .int p.2 :: vI m; rw [fzL_cons, fzL_vI, fz_int]
@[simp] theorem froz_prD : froz (prD p) = true := by unfold prD; simp
@[simp] theorem fz_prD : fz (prD p) = prD p := by unfold prD; simp
@[simp] theorem isUn_prD : isUn (prD p) = false := by unfold prD; simp
@[simp] theorem isSl_prD : isSl (prD p) = false := by unfold prD; simp
@[simp] theorem frozL_pI : ∀ {m : PL}, frozL (pI m) = true
  | [] => rfl
  | p :: m => by show frozL (prD p :: pI m) = true; rw [frozL_cons, frozL_pI, froz_prD]; rfl
@[simp] theorem fzL_pI : ∀ {m : PL}, fzL (pI m) = pI m
  | [] => rfl
  | p :: m => by show fzL (prD p :: pI m) = prD p :: pI m; rw [fzL_cons, fzL_pI, fz_prD]
@[simp] theorem len_pI : (pI m).length = m.length := List.length_map ..
@[simp] theorem len_vI : (vI m).length = m.length := List.length_map ..
@[simp] theorem len_kI : (kI m).length = m.length := List.length_map ..
@[simp] theorem asPrs_pI : asPrs (pI m) = some m := asPrs_map m
theorem isDk_dct {ks : List Key} {xs : List D} : isDk (.dct o ks xs) = true := by unfold isDk; rfl
theorem kIx_lk : ∀ {m : PL} {k : Int}, match kIx (kI m) (.inl k) with
    | some i => ∃ v, lkI m k = some v ∧ (vI m)[i]? = some (.int v)
    | none => lkI m k = none
  | [], k => rfl
  | p :: m, k => by
    have ih := kIx_lk (m := m) (k := k)
    show match kIx (.inl p.1 :: kI m) (.inl k) with
      | some i => ∃ v, lkI (p :: m) k = some v ∧ (D.int p.2 :: vI m)[i]? = some (.int v)
      | none => lkI (p :: m) k = none
    unfold kIx lkI
    by_cases h : p.1 = k
    · rw [if_pos (by rw [h]), if_pos h]
      exact ⟨p.2, rfl, rfl⟩
    · rw [if_neg (fun e => h (by injection e)), if_neg h]
      revert ih
      cases kIx (kI m) (.inl k) with
      | none => exact fun ih => ih
      | some i =>
        rintro ⟨v, h1, h2⟩
        exact ⟨v, h1, by rw [List.getElem?_cons_succ]; exact h2⟩
theorem get3_I : get3 (.dct o (kI m) (vI m)) (.int k) (.int z) = some (.int ((lkI m k).getD z)) := by
  have h := kIx_lk (m := m) (k := k)
  unfold get3
  show (match kIx (kI m) (.inl k) with
    | some i => ((vI m)[i]?).bind fun v => if froz v then some v else none
    | none => if froz (.int z) then some (.int z) else none) = _
  revert h
  cases kIx (kI m) (.inl k) with
  | none => intro h; rw [show lkI m k = none from h]; simp
  | some i =>
    rintro ⟨v, h1, h2⟩
    rw [h1]
    show ((vI m)[i]?).bind _ = _
    rw [h2]; simp
theorem fGet_I (h : lkI m k = some v) : fGet (.dct o (kI m) (vI m)) (.int k) = some (.int v) := by
  have h2 := kIx_lk (m := m) (k := k)
  unfold fGet
  show (kIx (kI m) (.inl k)).bind (fun i => ((vI m)[i]?).bind fun d => if froz d then some d else none) = _
  revert h2
  cases kIx (kI m) (.inl k) with
  | none => intro h2; rw [h] at h2; cases h2
  | some i =>
    rintro ⟨v, h1, h2⟩
    rw [h] at h1; cases h1
    show ((vI m)[i]?).bind _ = _
    rw [h2]; simp
theorem fNotIn_I : fNotIn (.int k) (.dct o (kI m) (vI m)) = some (.bl (lkI m k).isNone) := by
  have h2 := kIx_lk (m := m) (k := k)
  show some (D.bl (!(kIx (kI m) (.inl k)).isSome)) = _
  revert h2
  cases kIx (kI m) (.inl k) with
  | none => intro h2; rw [show lkI m k = none from h2]; rfl
  | some i => rintro ⟨v, h1, h2⟩; rw [h1]; rfl
theorem nodup_kI (h : Nk m) : (kI m).Nodup := by
  unfold Nk keysI List.Nodup at h
  unfold kI List.Nodup
  rw [List.pairwise_map] at *
  exact h.imp fun hab e => hab (by injection e)
theorem set_vI : ∀ {m : PL} {i : Nat} {k v : Int}, Nk m → kIx (kI m) (.inl k) = some i → (vI m).set i (.int v) = vI (putR m (k, v)) ∧ kI (putR m (k, v)) = kI m
  | [], i, k, v, _, h => by cases h
  | p :: m, i, k, v, hn, h => by
    replace h : kIx (.inl p.1 :: kI m) (.inl k) = some i := h
    unfold kIx at h
    unfold putR
    by_cases e : p.1 = k
    · rw [if_pos (by rw [e])] at h
      cases h
      rw [if_pos e]
      exact ⟨rfl, rfl⟩
    · rw [if_neg (fun z => e (by injection z))] at h
      obtain ⟨j, hj, rfl⟩ := Option.map_eq_some_iff.mp h
      rw [if_neg e]
      obtain ⟨h1, h2⟩ := set_vI (v := v) (Nk.cons.mp hn).2 hj
      refine ⟨?_, ?_⟩
      · show (D.int p.2 :: vI m).set (j + 1) (.int v) = .int p.2 :: vI (putR m (k, v))
        rw [List.set_cons_succ, h1]
      · show Sum.inl p.1 :: kI (putR m (k, v)) = Sum.inl p.1 :: kI m
        rw [h2]
theorem putD_I (hn : Nk m) (hl : m.length < sizeLine) : putD (.dct true (kI m) (vI m)) (.inl k) (.int v) = some (.dct true (kI (putI m (k, v))) (vI (putI m (k, v)))) := by
  have h2 := kIx_lk (m := m) (k := k)
  unfold putD
  dsimp only
  cases hk : kIx (kI m) (.inl k) with
  | some i =>
    obtain ⟨e1, e2⟩ := set_vI (v := v) hn hk
    dsimp only
    rw [putI_R hn, e2, ← e1, decide_eq_true (nodup_kI hn), len_kI, decide_eq_true hl]
    rfl
  | none =>
    rw [hk] at h2
    dsimp only
    rw [len_kI, decide_eq_true hl, putI_new (lkI_none.mp h2)]
    unfold kI vI
    rw [List.map_append, List.map_append]
    rfl
theorem items_I : itemsD (kI m) (vI m) = pI m := by
  unfold itemsD
  induction m with
  | nil => rfl
  | cons p m ih =>
    show ((Sum.inl p.1 :: kI m).zip (D.int p.2 :: vI m)).map _ = prD p :: pI m
    rw [List.zip_cons_cons, List.map_cons, ih]
    rfl
theorem keys_I : (kI m).map kD = (keysI m).map .int := by
  unfold kI keysI
  rw [List.map_map, List.map_map]
  rfl
theorem keyInts_I : keyInts (kI m) = some (keysI m) := by
  have := keyInts_map (keysI m)
  unfold keysI at this ⊢
  rw [List.map_map] at this
  exact this
theorem orC_none' {f g : List D → Option D} {ds : List D} (h : f ds = none) : fOrC f g ds = g ds := by unfold fOrC; rw [h]
theorem sortA_d (h : m.length < 64) : fSortA [.dct o (kI m) (vI m)] = some (.lst true (((keysI m).mergeSort (· ≤ ·)).map .int)) := by
  unfold fSortA
  rw [orC_none' (by rfl), orC_none' (by rfl), orC_none' (by rfl)]
  show (keyInts (kI m)).bind (fun ns => if ns.length < 64 then some (D.lst true ((ns.mergeSort (· ≤ ·)).map .int)) else none) = _
  rw [keyInts_I, Option.bind_some, if_pos (by unfold keysI; rw [List.length_map]; exact h)]
theorem orC_some {f g : List D → Option D} {ds : List D} {d : D} (h : f ds = some d) : fOrC f g ds = some d := by unfold fOrC; rw [h]
theorem orC_none {f g : List D → Option D} {ds : List D} (h : f ds = none) : fOrC f g ds = g ds := by unfold fOrC; rw [h]
theorem asInts_pI : asInts (pI (p :: m)) = none := by
  show asInts (prD p :: pI m) = none
  unfold prD asInts
  rfl
theorem sortA_l : fSortA [.lst o (pI m)] = some (.lst true (pI (canI m))) := by
  unfold fSortA
  cases m with
  | nil =>
    refine orC_some ?_
    show (asInts ([] : List D)).map (fun ns => D.lst true ((ns.mergeSort (· ≤ ·)).map .int)) = _
    simp [canI, pI]
  | cons p m =>
    rw [orC_none]
    · refine orC_some ?_
      show (asPrs (pI (p :: m))).map (fun ps => D.lst true ((ps.mergeSort lexLe).map prD)) = _
      rw [asPrs_pI]; rfl
    · show (asInts (pI (p :: m))).map (fun ns => D.lst true ((ns.mergeSort (· ≤ ·)).map .int)) = none
      rw [asInts_pI]; rfl
theorem sortA_t : fSortA [.tup (pI m)] = some (.lst true (pI (canI m))) := by
  unfold fSortA
  rw [orC_none (by rfl), orC_none (by rfl)]
  refine orC_some ?_
  show (asPrs (pI m)).map (fun ps => D.lst true ((ps.mergeSort lexLe).map prD)) = _
  rw [asPrs_pI]; rfl
theorem sortA_i {ns : List Int} : fSortA [.lst o (ns.map .int)] = some (.lst true ((ns.mergeSort (· ≤ ·)).map .int)) := by
  unfold fSortA
  refine orC_some ?_
  show (asInts (ns.map .int)).map (fun ns => D.lst true ((ns.mergeSort (· ≤ ·)).map .int)) = _
  rw [asInts_m]; rfl
theorem dictA_l (h : Nk m) : fDictA [.lst o (pI m)] = some (.dct true (kI m) (vI m)) := by
  show (asPrs (pI m)).map (fun ps => iD true (mergeI [] ps)) = _
  rw [asPrs_pI, Option.map_some, merge_nil h]
  rfl
theorem dictA_d : fDictA [.dct o (kI m) (vI m)] = some (.dct true (kI m) (vI m)) := by
  show (if frozL (vI m) = true then some (D.dct true (kI m) (vI m)) else none) = _
  rw [if_pos frozL_vI]
theorem lenA_l {xs : List D} : fLenA [.lst o xs] = some (.int xs.length) := rfl
theorem lenA_t {xs : List D} : fLenA [.tup xs] = some (.int xs.length) := rfl
theorem lenA_s {ns : List Int} : fLenA [.scr ns] = some (.int ns.length) := rfl
theorem sumA_i {ns : List Int} : fSumA [.lst o (ns.map .int)] = some (.int ns.sum) := by
  show (asInts (ns.map .int)).map (fun ns => D.int ns.sum) = _
  rw [asInts_m]; rfl
theorem sumA_v : fSumA [.lst o (vI m)] = some (.int (totI m)) := by
  have e : vI m = (m.map (·.2)).map .int := by unfold vI; rw [List.map_map]; rfl
  rw [e, sumA_i]; rfl
theorem lenSet_i {ns : List Int} (h : ns.Nodup) (hl : ns.length ≤ 4000) : fLenSet (.lst o (ns.map .int)) = some (.int ns.length) := by
  unfold fLenSet
  show (asInts (ns.map .int)).bind _ = _
  rw [asInts_m, Option.bind_some, if_pos hl, dedup_id h]
theorem asBls_true {α : Type} : ∀ {ms : List α}, asBls (ms.map fun _ => D.bl true) = some (ms.map fun _ => true)
  | [] => by unfold asBls; rfl
  | x :: ms => by
    rw [List.map_cons]
    unfold asBls
    rw [asBls_true]; rfl
theorem fAll_true {α : Type} {ms : List α} : fAll [.lst o (ms.map fun _ => D.bl true)] = some (.bl true) := by
  show (asBls (ms.map fun _ => D.bl true)).map (fun bs => D.bl (bs.all id)) = _
  rw [asBls_true, Option.map_some]
  congr 2
  rw [List.all_eq_true]
  intro x hx
  obtain ⟨_, _, rfl⟩ := List.mem_map.mp hx
  rfl
end
/-! ### comprehensions -/
theorem comp_go {α : Type} {own : List Nat} {tg : D → List D → Option (List D)} {test : Dn Bool} {elt : Dn D} {env : List D} (inj f : α → D) (q : α → Bool) : ∀ (ms : List α) (acc : List D), (∀ x ∈ ms, ∃ e1 e2, tg (inj x) env = some e1 ∧ test e1 = .ok (q x) e2 ∧ (if q x = true then ∃ e3, dU elt e2 = .ok (f x) e3 ∧ wipeE e3 own = env else wipeE e2 own = env)) →
    acc.length + ms.length < sizeLine → compD own tg test elt (ms.map inj) acc env = .ok (acc ++ (ms.filter q).map f) env
  | [], acc, _, _ => by rw [List.filter_nil, List.map_nil, List.map_nil, List.append_nil]; rfl
  | x :: ms, acc, h, hl => by
    obtain ⟨e1, e2, h1, h2, h3⟩ := h x List.mem_cons_self
    simp only [List.length_cons] at hl
    rw [List.map_cons]
    unfold compD
    rw [h1]
    dsimp only
    rw [h2]
    cases hq : q x with
    | true =>
      rw [hq, if_pos rfl] at h3
      obtain ⟨e3, h4, h5⟩ := h3
      dsimp only
      rw [h4]
      dsimp only
      rw [if_pos (by omega), h5, comp_go inj f q ms _ (fun y hy => h y (List.mem_cons_of_mem _ hy)) (by simp; omega), List.filter_cons_of_pos hq, List.map_cons, List.append_assoc]
      rfl
    | false =>
      rw [hq, if_neg (by simp)] at h3
      dsimp only
      rw [h3, comp_go inj f q ms _ (fun y hy => h y (List.mem_cons_of_mem _ hy)) (by omega), List.filter_cons_of_neg (by rw [hq]; simp)]
theorem comp_all {α : Type} {own : List Nat} {tg : D → List D → Option (List D)} {elt : Dn D} {env : List D} (inj f : α → D) (ms : List α) (h : ∀ x ∈ ms, ∃ e1 e3, tg (inj x) env = some e1 ∧ dU elt e1 = .ok (f x) e3 ∧ wipeE e3 own = env)
    (hl : ms.length < sizeLine) : compD own tg dYes elt (ms.map inj) [] env = .ok (ms.map f) env := by
  have z := comp_go (own := own) (tg := tg) (test := dYes) (elt := elt) (env := env) inj f (fun _ => true) ms [] (fun x hx => by
    obtain ⟨e1, e3, h1, h2, h3⟩ := h x hx
    exact ⟨e1, e1, h1, rfl, by rw [if_pos rfl]; exact ⟨e3, h2, h3⟩⟩) (by simpa using hl)
  rw [z, List.nil_append, List.filter_eq_self.mpr fun _ _ => rfl]
theorem dLc_ok {own : List Nat} {it : Dn (List D × List D)} {tg : D → List D → Option (List D)} {test : Dn Bool} {elt : Dn D} {env env1 env2 env3 env4 : List D} {ks xs acc : List D} (h1 : it env = .ok (ks, xs) env1) (h2 : wipeE env1 own = env2) (h3 : compD own tg test elt xs [] env2 = .ok acc env3) (h4 : wipeE env3 own = env4) :
    dLc own it tg test elt env = .ok (.lst true acc) env4 := by
  unfold dLc
  show (it env).bind _ = _
  rw [h1]
  show (match compD own tg test elt xs [] (wipeE env1 own) with
    | .ok acc e2 => Res.ok (D.lst true acc) (wipeE e2 own)
    | _ => .no) = _
  rw [h2, h3]
  dsimp only
  rw [h4]
theorem tg2 {a b : Nat} {p : Int × Int} {env : List D} : tgTup [tgName a, tgName b] (prD p) env = some ((env.set a (.int p.1)).set b (.int p.2)) := by unfold prD; simp
end DL
set_option Elab.async false
set_option linter.all false
set_option maxRecDepth 100000
set_option maxHeartbeats 400000
/-! DRc: what makes a row, and what it tells. -/
namespace DL
open PySem L2
/-- a list or a tuple of pairs -/
def sqI (b o : Bool) (m : PL) : D := if b then .lst o (pI m) else .tup (pI m)
theorem pairs_l {o : Bool} {m : PL} (hn : Nk m) (hl : m.length ≤ 4000) : f_are_pairs [.lst o (pI m)] = .ok (.bl true) [.lst false (pI m)] := by
  have hs : m.length < sizeLine := by rw [sizeLine_eq]; omega
  have c1 : ∀ o, c_are_pairs_1 [.lst o (pI m), .un, .un, .un] = .ok (.lst true (m.map fun _ => .bl true)) [.lst false (pI m), .un, .un, .un] := fun o => by
    unfold c_are_pairs_1
    refine dLc_ok (ks := [.lst false (pI m)]) (xs := pI m) (env1 := [.lst false (pI m), .un, .un, .un]) (by cases o <;> simp) rfl (comp_all prD (fun _ => .bl true) m (fun p hp => ⟨[.lst false (pI m), prD p, .un, .un], [.lst false (pI m), prD p, .un, .un], rfl, ?_, rfl⟩) hs) rfl
    unfold prD
    simp [kitT, lenA_t]
  have c2 : c_are_pairs_2 [.lst false (pI m), .un, .un, .un] = .ok (.lst true (m.map fun _ => .bl true)) [.lst false (pI m), .un, .un, .un] := by
    unfold c_are_pairs_2
    refine dLc_ok (ks := [.lst false (pI m)]) (xs := pI m) (env1 := [.lst false (pI m), .un, .un, .un]) (by simp) rfl (comp_all prD (fun _ => .bl true) m (fun p hp => ⟨[.lst false (pI m), .un, .int p.1, .int p.2], [.lst false (pI m), .un, .int p.1, .int p.2], tg2, ?_, rfl⟩) hs) rfl
    have i1 := integer_ok (d := .int p.1) rfl
    have i2 := integer_ok (d := .int p.2) rfl
    simp [i1, i2, isI]
  have c3 : c_are_pairs_3 [.lst false (pI m), .un, .un, .un] = .ok (.lst true ((keysI m).map .int)) [.lst false (pI m), .un, .un, .un] := by
    unfold c_are_pairs_3
    have e : (keysI m).map D.int = m.map fun p => .int p.1 := by unfold keysI; rw [List.map_map]; rfl
    rw [e]
    refine dLc_ok (ks := [.lst false (pI m)]) (xs := pI m) (env1 := [.lst false (pI m), .un, .un, .un]) (by simp) rfl (comp_all prD (fun p => .int p.1) m (fun p hp => ⟨[.lst false (pI m), .un, .int p.1, .int p.2], [.lst false (pI m), .un, .int p.1, .int p.2], tg2, ?_, rfl⟩) hs) rfl
    simp
  have l := lenSet_i (o := true) hn (by unfold keysI; rw [List.length_map]; exact hl)
  have e2 : (keysI m).length = m.length := List.length_map ..
  rw [e2] at l
  unfold f_are_pairs b_are_pairs
  cases o <;> simp [c1, c2, c3, fAll_true, l, lenA_l]
theorem pairs_t {m : PL} (hn : Nk m) (hl : m.length ≤ 4000) : f_are_pairs [.tup (pI m)] = .ok (.bl true) [.tup (pI m)] := by
  have hs : m.length < sizeLine := by rw [sizeLine_eq]; omega
  have c1 : c_are_pairs_1 [.tup (pI m), .un, .un, .un] = .ok (.lst true (m.map fun _ => .bl true)) [.tup (pI m), .un, .un, .un] := by
    unfold c_are_pairs_1
    refine dLc_ok (ks := [.tup (pI m)]) (xs := pI m) (env1 := [.tup (pI m), .un, .un, .un]) (by simp) rfl (comp_all prD (fun _ => .bl true) m (fun p hp => ⟨[.tup (pI m), prD p, .un, .un], [.tup (pI m), prD p, .un, .un], rfl, ?_, rfl⟩) hs) rfl
    unfold prD
    simp [kitT, lenA_t]
  have c2 : c_are_pairs_2 [.tup (pI m), .un, .un, .un] = .ok (.lst true (m.map fun _ => .bl true)) [.tup (pI m), .un, .un, .un] := by
    unfold c_are_pairs_2
    refine dLc_ok (ks := [.tup (pI m)]) (xs := pI m) (env1 := [.tup (pI m), .un, .un, .un]) (by simp) rfl (comp_all prD (fun _ => .bl true) m (fun p hp => ⟨[.tup (pI m), .un, .int p.1, .int p.2], [.tup (pI m), .un, .int p.1, .int p.2], tg2, ?_, rfl⟩) hs) rfl
    have i1 := integer_ok (d := .int p.1) rfl
    have i2 := integer_ok (d := .int p.2) rfl
    simp [i1, i2, isI]
  have c3 : c_are_pairs_3 [.tup (pI m), .un, .un, .un] = .ok (.lst true ((keysI m).map .int)) [.tup (pI m), .un, .un, .un] := by
    unfold c_are_pairs_3
    have e : (keysI m).map D.int = m.map fun p => .int p.1 := by unfold keysI; rw [List.map_map]; rfl
    rw [e]
    refine dLc_ok (ks := [.tup (pI m)]) (xs := pI m) (env1 := [.tup (pI m), .un, .un, .un]) (by simp) rfl (comp_all prD (fun p => .int p.1) m (fun p hp => ⟨[.tup (pI m), .un, .int p.1, .int p.2], [.tup (pI m), .un, .int p.1, .int p.2], tg2, ?_, rfl⟩) hs) rfl
    simp
  have l := lenSet_i (o := true) hn (by unfold keysI; rw [List.length_map]; exact hl)
  have e2 : (keysI m).length = m.length := List.length_map ..
  rw [e2] at l
  unfold f_are_pairs b_are_pairs
  simp [c1, c2, c3, fAll_true, l, lenA_t]
/-! ### loops with a state -/
theorem for_fold {α σ : Type} {tg : D → List D → Option (List D)} {body : Sn} (inj : α → D) (S : σ → List D → Prop) (step : σ → α → σ) : ∀ (ms : List α) (s : σ) (env : List D), S s env →
    (∀ x ∈ ms, ∀ s e, S s e → ∃ e1 e2, tg (inj x) e = some e1 ∧ body e1 = .nx e2 ∧ S (step s x) e2) → ∃ e, forD tg body (ms.map inj) env = .nx e ∧ S (ms.foldl step s) e
  | [], s, env, h0, _ => ⟨env, rfl, h0⟩
  | x :: ms, s, env, h0, h => by
    obtain ⟨e1, e2, h1, h2, h3⟩ := h x List.mem_cons_self s env h0
    obtain ⟨e, h4, h5⟩ := for_fold inj S step ms (step s x) e2 h3 fun y hy => h y (List.mem_cons_of_mem _ hy)
    refine ⟨e, ?_, h5⟩
    rw [List.map_cons]
    unfold forD
    rw [h1]
    dsimp only
    rw [h2]
    exact h4
/-! ### rows -/
def OkS (ss : PL) : Prop := Nk ss ∧ ss.length ≤ 6 ∧ ∀ p ∈ ss, -60 ≤ p.1 ∧ p.1 ≤ 60 ∧ 2 ≤ p.2 ∧ p.2 ≤ 9
def OkC (cs ss : PL) : Prop := Nk cs ∧ (∀ p ∈ cs, 1 ≤ p.2 ∧ p.2 ≤ (lkI ss p.1).getD 1) ∧ totI cs ≤ 40
theorem tot_len : ∀ {m : PL}, (∀ p ∈ m, 1 ≤ p.2) → (m.length : Int) ≤ totI m
  | [], _ => by unfold totI; simp
  | p :: m, h => by
    have := h p List.mem_cons_self
    have := tot_len (m := m) fun q hq => h q (List.mem_cons_of_mem _ hq)
    rw [tot_cons, List.length_cons]
    omega
theorem OkC.len {cs ss : PL} (h : OkC cs ss) : cs.length ≤ 40 := by
  have := tot_len fun p hp => (h.2.1 p hp).1
  have := h.2.2
  omega
/-- a list or a tuple of the pairs; the way a callee leaves it -/
inductive IsP (m : PL) : D → D → Prop
  | lst (o : Bool) : IsP m (.lst o (pI m)) (.lst false (pI m))
  | tup : IsP m (.tup (pI m)) (.tup (pI m))
theorem pairs_ok {m : PL} {d d' : D} (h : IsP m d d') (hn : Nk m) (hl : m.length ≤ 4000) : f_are_pairs [d] = .ok (.bl true) [d'] := by
  cases h with
  | lst o => exact pairs_l hn hl
  | tup => exact pairs_t hn hl
theorem caps_ok {ss : PL} {d d' : D} (h : IsP ss d d') (k : OkS ss) : f_are_capacities [d] = .ok (.bl true) [d'] := by
  obtain ⟨hn, hl, hs⟩ := k
  have p0 := pairs_ok h hn (by omega)
  have lp : ∀ x y, ∃ x' y', forD (tgTup [tgName 1, tgName 2]) b_are_capacities_2_b (pI ss) [d', x, y] = .nx [d', x', y'] := fun x y => by
    obtain ⟨e, h1, x', y', rfl⟩ := for_fold (σ := Unit) (tg := tgTup [tgName 1, tgName 2]) (body := b_are_capacities_2_b) prD (fun _ e => ∃ x y, e = [d', x, y]) (fun _ _ => ()) ss () [d', x, y] ⟨x, y, rfl⟩ (fun p hp _ e ⟨x, y, he⟩ => by
      obtain ⟨q1, q2, q3, q4⟩ := hs p hp
      subst he
      refine ⟨[d', .int p.1, .int p.2], [d', .int p.1, .int p.2], tg2, ?_, _, _, rfl⟩
      have i1 := between_ok (d := .int p.1) (lo := -60) (hi := 60) rfl
      have i2 := between_ok (d := .int p.2) (lo := 2) (hi := 9) rfl
      unfold b_are_capacities_2_b b_are_capacities_2_1
      simp [i1, i2, bet, q1, q2, q3, q4])
    exact ⟨x', y', h1⟩
  obtain ⟨x', y', lp⟩ := lp .un .un
  have q6 : ¬ ((6 : Int) < (ss.length : Int)) := by omega
  unfold f_are_capacities b_are_capacities b_are_capacities_1 b_are_capacities_2 b_are_capacities_3
  cases h with
  | lst o => cases o <;> simp [p0, lp, lenA_l, q6]
  | tup => simp [p0, lp, lenA_t, q6]
theorem fList_pI {o : Bool} {m : PL} : fList [.lst o (pI m)] = some (.lst true (pI m)) := by rw [fList_lst, if_pos frozL_pI]
theorem fList_pT {m : PL} : fList [.tup (pI m)] = some (.lst true (pI m)) := by rw [fList_tup, if_pos frozL_pI]
theorem conts_ok {cs ss : PL} {d d' c c' : D} (h : IsP cs d d') (g : IsP ss c c') (ks : Nk ss) (k : OkC cs ss) : f_are_contents [d, c] = .ok (.bl true) [d', c] := by
  have hlen := k.len
  obtain ⟨hn, hc, ht⟩ := k
  have p0 := pairs_ok h hn (by omega)
  have lp : ∀ x y, ∃ x' y', forD (tgTup [tgName 3, tgName 4]) b_are_contents_3_b (pI cs) [d', c, .dct true (kI ss) (vI ss), x, y] = .nx [d', c, .dct true (kI ss) (vI ss), x', y'] := fun x y => by
    obtain ⟨e, h1, x', y', rfl⟩ := for_fold (σ := Unit) (tg := tgTup [tgName 3, tgName 4]) (body := b_are_contents_3_b) prD (fun _ e => ∃ x y, e = [d', c, .dct true (kI ss) (vI ss), x, y]) (fun _ _ => ()) cs () [d', c, .dct true (kI ss) (vI ss), x, y] ⟨x, y, rfl⟩ (fun p hp _ e ⟨x, y, he⟩ => by
      obtain ⟨q1, q2⟩ := hc p hp
      subst he
      refine ⟨[d', c, .dct true (kI ss) (vI ss), .int p.1, .int p.2], [d', c, .dct true (kI ss) (vI ss), .int p.1, .int p.2], tg2, ?_, _, _, rfl⟩
      unfold b_are_contents_3_b b_are_contents_3_1
      simp [isDk_dct, get3_I, q1, q2])
    exact ⟨x', y', h1⟩
  obtain ⟨x', y', lp⟩ := lp .un .un
  have hs : cs.length < sizeLine := by rw [sizeLine_eq]; omega
  have dl := dictA_l (o := true) ks
  unfold f_are_contents b_are_contents b_are_contents_1 b_are_contents_2 b_are_contents_3 b_are_contents_4
  cases h with
  | lst o =>
    have cm : c_are_contents_1 [.lst false (pI cs), c, .dct true (kI ss) (vI ss), x', y'] = .ok (.lst true (vI cs)) [.lst false (pI cs), c, .dct true (kI ss) (vI ss), .un, .un] := by
      unfold c_are_contents_1
      refine dLc_ok (ks := [.lst false (pI cs)]) (xs := pI cs) (env1 := [.lst false (pI cs), c, .dct true (kI ss) (vI ss), x', y']) (by simp) rfl (comp_all prD (fun p => .int p.2) cs (fun p hp => ⟨[.lst false (pI cs), c, .dct true (kI ss) (vI ss), .int p.1, .int p.2], [.lst false (pI cs), c, .dct true (kI ss) (vI ss), .int p.1, .int p.2], tg2, ?_, rfl⟩) hs) rfl
      simp
    cases g with
    | lst o2 => cases o <;> cases o2 <;> simp [p0, lp, lenA_l, fList_pI, dl, cm, sumA_v, ht]
    | tup => cases o <;> simp [p0, lp, lenA_l, fList_pT, dl, cm, sumA_v, ht]
  | tup =>
    have cm : c_are_contents_1 [.tup (pI cs), c, .dct true (kI ss) (vI ss), x', y'] = .ok (.lst true (vI cs)) [.tup (pI cs), c, .dct true (kI ss) (vI ss), .un, .un] := by
      unfold c_are_contents_1
      refine dLc_ok (ks := [.tup (pI cs)]) (xs := pI cs) (env1 := [.tup (pI cs), c, .dct true (kI ss) (vI ss), x', y']) (by simp) rfl (comp_all prD (fun p => .int p.2) cs (fun p hp => ⟨[.tup (pI cs), c, .dct true (kI ss) (vI ss), .int p.1, .int p.2], [.tup (pI cs), c, .dct true (kI ss) (vI ss), .int p.1, .int p.2], tg2, ?_, rfl⟩) hs) rfl
      simp
    cases g with
    | lst o2 => cases o2 <;> simp [p0, lp, lenA_l, fList_pI, dl, cm, sumA_v, ht]
    | tup => simp [p0, lp, lenA_l, fList_pT, dl, cm, sumA_v, ht]
/-! ### the instance -/
def rowD (cs ss : PL) : D := .obj false "Row" ["r_counts", "r_sizes"] [.dct false (kI cs) (vI cs), .dct false (kI ss) (vI ss)]
@[simp] theorem froz_rowD {cs ss : PL} : froz (rowD cs ss) = true := by unfold rowD; simp
@[simp] theorem fz_rowD {cs ss : PL} : fz (rowD cs ss) = rowD cs ss := by unfold rowD; simp
@[simp] theorem isUn_rowD {cs ss : PL} : isUn (rowD cs ss) = false := by unfold rowD; simp
@[simp] theorem isSl_rowD {cs ss : PL} : isSl (rowD cs ss) = false := by unfold rowD; simp
theorem init_ok {cs ss : PL} {d d' c c' : D} (h : IsP cs d d') (g : IsP ss c c') (ks : OkS ss) (k : OkC cs ss) :
    f_Row_init [.obj true "Row" [] [], d, c] = .ok .non [.obj true "Row" ["r_counts", "r_sizes"] [.dct true (kI (canI cs)) (vI (canI cs)), .dct true (kI (canI ss)) (vI (canI ss))], d', c'] := by
  have e1 := caps_ok g ks
  have g2 : IsP ss c' c' := by cases g with
    | lst o => exact .lst false
    | tup => exact .tup
  have e2 := conts_ok h g2 ks.1 k
  have n1 := dictA_l (o := true) (Nk_can k.1)
  have n2 := dictA_l (o := true) (Nk_can ks.1)
  have i0 : ¬ (("r_counts" : Str) = "r_sizes") := by decide +kernel
  unfold f_Row_init b_Row_init
  cases h with
  | lst o =>
    cases g with
    | lst o2 => cases o <;> cases o2 <;> simp [e1, e2, sortA_l, n1, n2, putO, fIxN, i0]
    | tup => cases o <;> simp [e1, e2, sortA_l, sortA_t, n1, n2, putO, fIxN, i0]
  | tup =>
    cases g with
    | lst o2 => cases o2 <;> simp [e1, e2, sortA_l, sortA_t, n1, n2, putO, fIxN, i0]
    | tup => simp [e1, e2, sortA_t, n1, n2, putO, fIxN, i0]
/-! ### what a row tells -/
section
variable {cs ss : PL} {k : Int}
theorem ne1 : ¬ (("r_counts" : Str) = "r_sizes") := by decide +kernel
theorem ne2 : ¬ (("r_sizes" : Str) = "r_counts") := by decide +kernel
theorem ob_prop : isOb "Row" "" (rowD cs ss) = true := by
  have h1 : ¬ (("" : Str) = "r_counts") := by decide +kernel
  have h2 : ¬ (("" : Str) = "r_sizes") := by decide +kernel
  simp [isOb, rowD, h1, h2]
theorem ob_held : isOb "Row" "held" (rowD cs ss) = true := by
  have h1 : ¬ (("held" : Str) = "r_counts") := by decide +kernel
  have h2 : ¬ (("held" : Str) = "r_sizes") := by decide +kernel
  simp [isOb, rowD, h1, h2]
theorem ob_capacity : isOb "Row" "capacity" (rowD cs ss) = true := by
  have h1 : ¬ (("capacity" : Str) = "r_counts") := by decide +kernel
  have h2 : ¬ (("capacity" : Str) = "r_sizes") := by decide +kernel
  simp [isOb, rowD, h1, h2]
theorem ob_total : isOb "Row" "total" (rowD cs ss) = true := by
  have h1 : ¬ (("total" : Str) = "r_counts") := by decide +kernel
  have h2 : ¬ (("total" : Str) = "r_sizes") := by decide +kernel
  simp [isOb, rowD, h1, h2]
theorem ob_plain : isOb "Row" "is_plain" (rowD cs ss) = true := by
  have h1 : ¬ (("is_plain" : Str) = "r_counts") := by decide +kernel
  have h2 : ¬ (("is_plain" : Str) = "r_sizes") := by decide +kernel
  simp [isOb, rowD, h1, h2]
theorem fld_counts : fFld "Row" "r_counts" (rowD cs ss) = some (.dct false (kI cs) (vI cs)) := by
  unfold rowD fFld
  simp [List.lookup]
theorem fld_sizes : fFld "Row" "r_sizes" (rowD cs ss) = some (.dct false (kI ss) (vI ss)) := by
  have e : (("r_sizes" : Str) == "r_counts") = false := by decide +kernel
  unfold rowD fFld
  simp [List.lookup, e]
theorem fTuple_pI {o : Bool} {m : PL} : fTuple [.lst o (pI m)] = some (.tup (pI m)) := by rw [fTuple_lst, if_pos frozL_pI]
theorem contents_ok : f_Row_contents [rowD cs ss] = .ok (.tup (pI cs)) [rowD cs ss] := by
  unfold f_Row_contents b_Row_contents
  simp [fld_counts, items_I, fTuple_pI]
theorem capacities_ok : f_Row_capacities [rowD cs ss] = .ok (.tup (pI ss)) [rowD cs ss] := by
  unfold f_Row_capacities b_Row_capacities
  simp [fld_sizes, items_I, fTuple_pI]
theorem held_ok : f_Row_held [rowD cs ss, .int k] = .ok (.int ((lkI cs k).getD 0)) [rowD cs ss, .int k] := by
  have i1 := integer_ok (d := .int k) rfl
  unfold f_Row_held b_Row_held
  simp [i1, isI, fld_counts, isDk_dct, get3_I]
theorem capacity_ok : f_Row_capacity [rowD cs ss, .int k] = .ok (.int ((lkI ss k).getD 1)) [rowD cs ss, .int k] := by
  have i1 := integer_ok (d := .int k) rfl
  unfold f_Row_capacity b_Row_capacity
  simp [i1, isI, fld_sizes, isDk_dct, get3_I]
theorem total_ok (hl : cs.length ≤ 4000) : f_Row_total [rowD cs ss] = .ok (.int (totI cs)) [rowD cs ss] := by
  have hs : cs.length < sizeLine := by rw [sizeLine_eq]; omega
  have cm : c_Row_total_1 [rowD cs ss, .un, .un] = .ok (.lst true (vI cs)) [rowD cs ss, .un, .un] := by
    unfold c_Row_total_1
    refine dLc_ok (ks := [.tup (pI cs)]) (xs := pI cs) (env1 := [rowD cs ss, .un, .un]) (by simp [ob_prop, contents_ok]) rfl (comp_all prD (fun p => .int p.2) cs (fun p hp => ⟨[rowD cs ss, .int p.1, .int p.2], [rowD cs ss, .int p.1, .int p.2], tg2, ?_, rfl⟩) hs) rfl
    simp
  unfold f_Row_total b_Row_total
  simp [cm, sumA_v]
theorem counts_of_ok (h : Nk cs) : f_counts_of [rowD cs ss] = .ok (.dct true (kI cs) (vI cs)) [rowD cs ss] := by
  unfold f_counts_of b_counts_of
  simp [ob_prop, contents_ok, fList_pT, dictA_l h]
theorem okR_pI : ∀ {m : PL}, (∀ p ∈ m, p.1.natAbs < 2 ^ 1000 ∧ p.2.natAbs < 2 ^ 1000) → okRL (pI m) = true ∧ depL (pI m) ≤ 1 ∧ blkL (pI m) ≤ 3 * m.length
  | [], _ => by unfold pI okRL depL blkL; simp
  | p :: m, h => by
    obtain ⟨h1, h2, h3⟩ := okR_pI (m := m) fun q hq => h q (List.mem_cons_of_mem _ hq)
    obtain ⟨g1, g2⟩ := h p List.mem_cons_self
    show okRL (prD p :: pI m) = true ∧ depL (prD p :: pI m) ≤ 1 ∧ blkL (prD p :: pI m) ≤ _
    unfold okRL depL blkL prD
    have l1 := log2_small g1
    have l2 := log2_small g2
    have e1 : okR (.tup [.int p.1, .int p.2]) = true := by
      unfold okR okRL okR okRL okR okRL
      rw [l1, l2]; rfl
    have e2 : dep (.tup [.int p.1, .int p.2]) = 1 := rfl
    have e3 : blk (.tup [.int p.1, .int p.2]) = 2 := rfl
    rw [e1, e2, e3, h1]
    refine ⟨rfl, by omega, ?_⟩
    rw [List.length_cons]
    omega
end
end DL
set_option Elab.async false
set_option linter.all false
set_option maxRecDepth 100000
set_option maxHeartbeats 400000
/-! DRd: the way of a carrier, in plain Lean. -/
namespace DL
/-- what is picked up, what is put down; carrier c with load b at a box of capacity z with a items -/
def upP (c b a : Int) : Int := if a < c - b then a else c - b
def dnP (b z a : Int) : Int := if z - a < b then z - a else b
def pN (c b z a : Int) : Int := a - upP c b a + dnP b z a
def pL (c b z a : Int) : Int := b + upP c b a - dnP b z a
theorem pP_ok {c b z a : Int} (h1 : 1 ≤ c) (h2 : 0 ≤ b) (h3 : b ≤ c) (h4 : 1 ≤ z) (h5 : 0 ≤ a) (h6 : a ≤ z) :
    0 ≤ pN c b z a ∧ pN c b z a ≤ z ∧ 0 ≤ pL c b z a ∧ pL c b z a ≤ c ∧ pL c b z a + pN c b z a = b + a := by
  unfold pN pL upP dnP
  split <;> split <;> omega
/-- an empty box takes something, if there is some -/
theorem pL_less {c b z : Int} (h1 : 1 ≤ c) (h2 : 0 < b) (h3 : b ≤ c) (h4 : 1 ≤ z) : pL c b z 0 < b := by
  unfold pL upP dnP
  split <;> split <;> omega
abbrev W5 := Int × Int × Int × Int × Int
/-- box, load, count, new load, new count -/
def stp (G H : Int → Int) (c l y : Int) : W5 := (y, l, G y, pL c l (H y) (G y), pN c l (H y) (G y))
def nxAt (left : List Int) (l x : Int) : Int := if l = 0 then left.headD 0 else x
def nxLeft (left : List Int) (y : Int) : List Int := if left.head? = some y then left.tail else left
def wgo (G H : Int → Int) (c : Int) : Nat → List Int → Int → Int → List W5
  | 0, _, _, _ => []
  | n + 1, left, l, x => if l = 0 ∧ left = [] then [] else
    let y := nxAt left l x
    stp G H c l y :: wgo G H c n (nxLeft left y) (pL c l (H y) (G y)) (y + 1)
def meas (G : Int → Int) (left : List Int) (l : Int) : Int := l + (left.map fun k => G k + 1).sum
/-- boxes left, load, place, a bound below: what holds between two boxes -/
structure WI (G H : Int → Int) (c : Int) (left : List Int) (l x b : Int) : Prop where
  c1 : 1 ≤ c
  hH : ∀ y, 1 ≤ H y
  asc : left.Pairwise (· < ·)
  hl : ∀ k ∈ left, b ≤ k ∧ 1 ≤ G k ∧ G k ≤ H k
  l0 : 0 ≤ l
  lc : l ≤ c
  nx : l ≠ 0 → x = b
  no : ∀ y, b ≤ y → y ∉ left → G y = 0
theorem sum_pos {G : Int → Int} : ∀ {left : List Int}, (∀ k ∈ left, 1 ≤ G k) → 0 ≤ (left.map fun k => G k + 1).sum
  | [], _ => by simp
  | k :: left, h => by
    have := h k List.mem_cons_self
    have := sum_pos (left := left) fun q hq => h q (List.mem_cons_of_mem _ hq)
    rw [List.map_cons, List.sum_cons]
    omega
/-- the chain of steps -/
def Chn (G H : Int → Int) (c : Int) : Int → Int → List W5 → Prop
  | _, _, [] => True
  | x, l, w :: ws => x ≤ w.1 ∧ w.2.1 = l ∧ w.2.2.1 = G w.1 ∧ 0 ≤ w.2.2.2.1 ∧ w.2.2.2.1 ≤ c ∧ 0 ≤ w.2.2.2.2 ∧ w.2.2.2.2 ≤ H w.1 ∧ w.2.2.2.1 + w.2.2.2.2 = l + G w.1 ∧ Chn G H c (w.1 + 1) w.2.2.2.1 ws
def lastL (l : Int) : List W5 → Int
  | [] => l
  | w :: ws => lastL w.2.2.2.1 ws
theorem WI.next {G H : Int → Int} {c l x b : Int} {left : List Int} (h : WI G H c left l x b) (hne : ¬ (l = 0 ∧ left = [])) :
    b ≤ nxAt left l x ∧ (∀ k ∈ nxLeft left (nxAt left l x), nxAt left l x < k) ∧ 0 ≤ G (nxAt left l x) ∧ G (nxAt left l x) ≤ H (nxAt left l x) ∧
    WI G H c (nxLeft left (nxAt left l x)) (pL c l (H (nxAt left l x)) (G (nxAt left l x))) (nxAt left l x + 1) (nxAt left l x + 1) ∧
    meas G (nxLeft left (nxAt left l x)) (pL c l (H (nxAt left l x)) (G (nxAt left l x))) < meas G left l ∧ (l = 0 → ∃ r, left = nxAt left l x :: r) ∧ (l ≠ 0 → nxAt left l x = x) ∧ (nxAt left l x ∈ left ∨ G (nxAt left l x) = 0) ∧ (∀ k ∈ left, k = nxAt left l x ∨ k ∈ nxLeft left (nxAt left l x)) := by
  obtain ⟨c1, hH, asc, hl, l0, lc, nx, no⟩ := h
  have key : b ≤ nxAt left l x ∧ ∀ k ∈ left, nxAt left l x ≤ k := by
    unfold nxAt
    by_cases h0 : l = 0
    · rw [if_pos h0]
      cases left with
      | nil => exact absurd ⟨h0, rfl⟩ hne
      | cons k r =>
        refine ⟨(hl k List.mem_cons_self).1, fun j hj => ?_⟩
        show k ≤ j
        rcases List.mem_cons.mp hj with e | e
        · omega
        · have := (List.pairwise_cons.mp asc).1 j e; omega
    · rw [if_neg h0]
      have := nx h0
      exact ⟨by omega, fun k hk => by have := (hl k hk).1; omega⟩
  have hz : l = 0 → ∃ r, left = nxAt left l x :: r := fun h0 => by
    unfold nxAt
    rw [if_pos h0]
    cases left with
    | nil => exact absurd ⟨h0, rfl⟩ hne
    | cons k r => exact ⟨r, rfl⟩
  have hx : l ≠ 0 → nxAt left l x = x := fun h0 => by unfold nxAt; rw [if_neg h0]
  generalize hy : nxAt left l x = y at *
  obtain ⟨yb, yk⟩ := key
  have main : (∃ r, left = y :: r ∧ nxLeft left y = r) ∨ (y ∉ left ∧ nxLeft left y = left ∧ l ≠ 0) := by
    unfold nxLeft
    cases left with
    | nil =>
      right
      refine ⟨List.not_mem_nil, by simp, fun h0 => hne ⟨h0, rfl⟩⟩
    | cons k r =>
      by_cases e : k = y
      · left
        exact ⟨r, by rw [e], by simp [e]⟩
      · right
        refine ⟨fun z => ?_, by simp [e], fun h0 => ?_⟩
        · rcases List.mem_cons.mp z with z | z
          · exact e z.symm
          · have h1 := (List.pairwise_cons.mp asc).1 y z
            have h2 := yk k List.mem_cons_self
            omega
        · obtain ⟨r', hr⟩ := hz h0
          injection hr with h1
          exact e h1
  have hG : 0 ≤ G y ∧ G y ≤ H y := by
    rcases main with ⟨r, e, _⟩ | ⟨e, _, _⟩
    · have := hl y (by rw [e]; exact List.mem_cons_self)
      omega
    · have := no y yb e
      have := hH y
      omega
  obtain ⟨q1, q2, q3, q4, q5⟩ := pP_ok (c := c) (b := l) (z := H y) (a := G y) c1 l0 lc (hH y) hG.1 hG.2
  have lt : ∀ k ∈ nxLeft left y, y < k := by
    rcases main with ⟨r, e, e2⟩ | ⟨e, e2, _⟩
    · rw [e2]
      rw [e] at asc
      exact (List.pairwise_cons.mp asc).1
    · rw [e2]
      intro k hk
      have := yk k hk
      have : k ≠ y := fun z => e (z ▸ hk)
      omega
  have sub : ∀ k ∈ nxLeft left y, k ∈ left := by
    rcases main with ⟨r, e, e2⟩ | ⟨e, e2, _⟩
    · rw [e2, e]; exact fun k hk => List.mem_cons_of_mem _ hk
    · rw [e2]; exact fun k hk => hk
  have all : ∀ k ∈ left, k = y ∨ k ∈ nxLeft left y := by
    rcases main with ⟨r, e, e2⟩ | ⟨e, e2, _⟩
    · rw [e2, e]; exact fun k hk => List.mem_cons.mp hk
    · rw [e2]; exact fun k hk => .inr hk
  refine ⟨yb, lt, hG.1, hG.2, ⟨c1, hH, ?_, fun k hk => ?_, q3, q4, fun _ => rfl, fun z hz2 hz3 => ?_⟩, ?_, hz, hx, ?_, all⟩
  · rcases main with ⟨r, e, e2⟩ | ⟨e, e2, _⟩
    · rw [e2]; rw [e] at asc; exact (List.pairwise_cons.mp asc).2
    · rw [e2]; exact asc
  · have h1 := lt k hk
    have h2 := hl k (sub k hk)
    exact ⟨by omega, h2.2⟩
  · refine no z (by omega) fun hm => ?_
    rcases all z hm with e | e
    · omega
    · exact hz3 e
  · unfold meas
    rcases main with ⟨r, e, e2⟩ | ⟨e, e2, e3⟩
    · rw [e2, e, List.map_cons, List.sum_cons]
      omega
    · rw [e2]
      have g0 := no y yb e
      have := pL_less (c := c) (b := l) (z := H y) c1 (by omega) lc (hH y)
      rw [g0]
      omega
  · rcases main with ⟨r, e, _⟩ | ⟨e, _, _⟩
    · left; rw [e]; exact List.mem_cons_self
    · right; exact no y yb e
theorem meas_nn {G H : Int → Int} {c l x b : Int} {left : List Int} (h : WI G H c left l x b) : 0 ≤ meas G left l := by
  have := sum_pos fun k hk => (h.hl k hk).2.1
  have := h.l0
  unfold meas; omega
/-- enough turns: the chain, no load at the end, all boxes seen, so many steps -/
theorem wgo_ok {G H : Int → Int} {c : Int} : ∀ {n : Nat} {left : List Int} {l x b : Int}, WI G H c left l x b → meas G left l ≤ n →
    Chn G H c b l (wgo G H c n left l x) ∧ lastL l (wgo G H c n left l x) = 0 ∧ (∀ k ∈ left, k ∈ (wgo G H c n left l x).map (·.1)) ∧ ((wgo G H c n left l x).length : Int) ≤ meas G left l
  | 0, left, l, x, b, h, hm => by
    have h0 := meas_nn h
    have s0 := sum_pos fun k hk => (h.hl k hk).2.1
    have l0 := h.l0
    have e : l = 0 := by unfold meas at hm; omega
    have e2 : left = [] := by
      cases left with
      | nil => rfl
      | cons k r =>
        have := (h.hl k List.mem_cons_self).2.1
        have := sum_pos (left := r) fun q hq => (h.hl q (List.mem_cons_of_mem _ hq)).2.1
        unfold meas at hm
        rw [List.map_cons, List.sum_cons] at hm
        omega
    subst e e2
    unfold wgo
    exact ⟨trivial, rfl, fun k hk => absurd hk List.not_mem_nil, h0⟩
  | n + 1, left, l, x, b, h, hm => by
    unfold wgo
    by_cases hs : l = 0 ∧ left = []
    · rw [if_pos hs]
      obtain ⟨rfl, rfl⟩ := hs
      exact ⟨trivial, rfl, fun k hk => absurd hk List.not_mem_nil, by have := meas_nn h; simpa using this⟩
    · rw [if_neg hs]
      obtain ⟨yb, lt, g0, gH, wi, ml, hz, hx, hg, all⟩ := h.next hs
      obtain ⟨q1, q2, q3, q4, q5⟩ := pP_ok (c := c) (b := l) (z := H (nxAt left l x)) (a := G (nxAt left l x)) h.c1 h.l0 h.lc (h.hH _) g0 gH
      obtain ⟨i1, i2, i3, i4⟩ := wgo_ok wi (n := n) (by omega)
      refine ⟨⟨yb, rfl, rfl, q3, q4, q1, q2, q5, i1⟩, i2, fun k hk => ?_, ?_⟩
      · rw [List.map_cons]
        rcases all k hk with e | e
        · rw [e]; exact List.mem_cons_self
        · exact List.mem_cons_of_mem _ (i3 k e)
      · rw [List.length_cons]
        push_cast
        omega
/-- how far the steps are -/
theorem wgo_far {G H : Int → Int} {c : Int} {B : Int} : ∀ {n : Nat} {left : List Int} {l x b : Int}, WI G H c left l x b → (∀ k ∈ left, k ≤ B) → (l ≠ 0 → x ≤ B) → ∀ w ∈ wgo G H c n left l x, w.1 ≤ B + n
  | 0, left, l, x, b, h, _, _, w, hw => absurd hw List.not_mem_nil
  | n + 1, left, l, x, b, h, hB, hx, w, hw => by
    unfold wgo at hw
    by_cases hs : l = 0 ∧ left = []
    · rw [if_pos hs] at hw; exact absurd hw List.not_mem_nil
    · rw [if_neg hs] at hw
      obtain ⟨yb, lt, g0, gH, wi, ml, hz, hx2, hg, all⟩ := h.next hs
      have hy : nxAt left l x ≤ B := by
        by_cases h0 : l = 0
        · obtain ⟨r, hr⟩ := hz h0
          have hm : ∀ y, left = y :: r → y ∈ left := fun y e => by rw [e]; exact List.mem_cons_self
          exact hB _ (hm _ hr)
        · rw [hx2 h0]; exact hx h0
      rcases List.mem_cons.mp hw with e | e
      · rw [e]; show nxAt left l x ≤ _; push_cast; omega
      · have := wgo_far (B := B + 1) wi (n := n) (fun k hk => by
          have : k ∈ left := by
            have := wi.hl k hk
            unfold nxLeft at hk
            split at hk
            · exact List.mem_of_mem_tail hk
            · exact hk
          have := hB k this
          omega) (fun _ => by omega) w e
        push_cast
        omega
/-! ### the counts behind the steps -/
def aft (s : Int) (m : PL) (W : List W5) : PL := W.foldl (fun m w => putI m (s * w.1, w.2.2.2.2)) m
theorem Nk_aft {s : Int} : ∀ {W : List W5} {m : PL}, Nk m → Nk (aft s m W)
  | [], _, h => h
  | w :: W, m, h => Nk_aft (W := W) (Nk_put h)
theorem len_aft {s : Int} : ∀ {W : List W5} {m : PL}, Nk m → (aft s m W).length ≤ m.length + W.length
  | [], _, h => by show _ ≤ _ + 0; exact Nat.le_refl _
  | w :: W, m, h => by
    have := len_aft (s := s) (W := W) (Nk_put (p := (s * w.1, w.2.2.2.2)) h)
    have := len_put (p := (s * w.1, w.2.2.2.2)) h
    show (aft s (putI m (s * w.1, w.2.2.2.2)) W).length ≤ _
    rw [List.length_cons]; omega
theorem Chn.weak {G H : Int → Int} {c : Int} : ∀ {W : List W5} {x y l : Int}, Chn G H c x l W → y ≤ x → Chn G H c y l W
  | [], _, _, _, _, _ => trivial
  | w :: W, x, y, l, h, hy => ⟨by have := h.1; omega, h.2⟩
/-- the first steps, up to a place -/
theorem Chn.upto {G H : Int → Int} {c : Int} (i : Int) : ∀ {W : List W5} {x l : Int}, Chn G H c x l W → Chn G H c x l (W.filter fun w => decide (w.1 ≤ i))
  | [], _, _, _ => trivial
  | w :: W, x, l, h => by
    obtain ⟨h1, h2, h3, h4, h5, h6, h7, h8, h9⟩ := h
    by_cases e : w.1 ≤ i
    · rw [List.filter_cons_of_pos (by simpa using e)]
      exact ⟨h1, h2, h3, h4, h5, h6, h7, h8, h9.upto i⟩
    · rw [List.filter_cons_of_neg (by simpa using e)]
      have : W.filter (fun w => decide (w.1 ≤ i)) = [] := by
        have g : ∀ {W : List W5} {x l : Int}, Chn G H c x l W → i < x → W.filter (fun w => decide (w.1 ≤ i)) = [] := by
          intro W
          induction W with
          | nil => intro _ _ _ _; rfl
          | cons w W ih =>
            intro x l h hx
            rw [List.filter_cons_of_neg (by have := h.1; simp; omega)]
            exact ih h.2.2.2.2.2.2.2.2 (by have := h.1; omega)
        exact g h9 (by omega)
      rw [this]; trivial
theorem Chn.nn {G H : Int → Int} {c : Int} : ∀ {W : List W5} {x l : Int}, Chn G H c x l W → 0 ≤ l → 0 ≤ lastL l W
  | [], _, _, _, h => h
  | w :: W, x, l, h, hl => by
    obtain ⟨h1, h2, h3, h4, h5, h6, h7, h8, h9⟩ := h
    exact Chn.nn (l := w.2.2.2.1) h9 h4
theorem tot_aft {G H : Int → Int} {c s : Int} (hs : s * s = 1) : ∀ {W : List W5} {m : PL} {x l : Int}, Chn G H c x l W → Nk m → (∀ y, x ≤ y → (lkI m (s * y)).getD 0 = G y) → totI (aft s m W) = totI m + l - lastL l W
  | [], m, x, l, _, _, _ => by show totI m = totI m + l - l; omega
  | w :: W, m, x, l, h, hn, hg => by
    obtain ⟨h1, h2, h3, h4, h5, h6, h7, h8, h9⟩ := h
    have ih := tot_aft (s := s) hs h9 (Nk_put (p := (s * w.1, w.2.2.2.2)) hn) (fun y hy => by
      rw [lk_put hn, if_neg]
      · exact hg y (by omega)
      · intro e
        have : s * (s * w.1) = s * (s * y) := congrArg (s * ·) e
        rw [← Int.mul_assoc, ← Int.mul_assoc, hs] at this
        omega)
    show totI (aft s (putI m (s * w.1, w.2.2.2.2)) W) = _
    rw [ih, tot_put hn]
    show totI m - (lkI m (s * w.1)).getD 0 + w.2.2.2.2 + _ - lastL _ W = totI m + l - lastL l (w :: W)
    rw [hg w.1 h1]
    show totI m - G w.1 + w.2.2.2.2 + w.2.2.2.1 - lastL w.2.2.2.1 W = totI m + l - lastL w.2.2.2.1 W
    omega
/-- counts within the capacities, perhaps 0 -/
def WkC (cp : Int → Int) (m : PL) : Prop := Nk m ∧ ∀ k v, lkI m k = some v → 0 ≤ v ∧ v ≤ cp k
theorem wk_aft {G H : Int → Int} {c s : Int} {cp : Int → Int} (hH : ∀ y, H y = cp (s * y)) : ∀ {W : List W5} {m : PL} {x l : Int}, Chn G H c x l W → WkC cp m → WkC cp (aft s m W)
  | [], m, _, _, _, h => h
  | w :: W, m, x, l, h, hn => by
    obtain ⟨h1, h2, h3, h4, h5, h6, h7, h8, h9⟩ := h
    refine wk_aft hH h9 (m := putI m (s * w.1, w.2.2.2.2)) ⟨Nk_put hn.1, fun k v e => ?_⟩
    rw [lk_put hn.1] at e
    split at e
    · rename_i e2
      cases e
      rw [← e2, ← hH]
      exact ⟨h6, h7⟩
    · exact hn.2 k v e
theorem pos_ok {cp : Int → Int} {m : PL} (h : WkC cp m) (ht : totI m ≤ 40) {ss : PL} (hc : ∀ k, cp k = (lkI ss k).getD 1) : OkC (posI m) ss := by
  refine ⟨Nk_pos h.1, fun p hp => ?_, ?_⟩
  · obtain ⟨h1, h2⟩ := List.mem_filter.mp hp
    have := h.2 p.1 p.2 ((lk_mem h.1).mpr h1)
    have h3 : 0 < p.2 := by simpa using h2
    rw [← hc]
    exact ⟨by omega, this.2⟩
  · rw [tot_pos fun p hp => (h.2 p.1 p.2 ((lk_mem h.1).mpr hp)).1]
    exact ht
theorem ok_wk {cs ss : PL} (h : OkC cs ss) : WkC (fun k => (lkI ss k).getD 1) cs := ⟨h.1, fun k v e => by
  have := h.2.1 (k, v) ((lk_mem h.1).mp e)
  exact ⟨by have := this.1; show 0 ≤ v; omega, this.2⟩⟩
theorem can_okC {cs ss ss' : PL} (h : OkC cs ss) (e : ∀ k, lkI ss' k = lkI ss k) : OkC (canI cs) ss' := ⟨Nk_can h.1, fun p hp => by rw [e]; exact h.2.1 p (mem_can.mp hp), by rw [tot_can]; exact h.2.2⟩
theorem can_okS {ss : PL} (h : OkS ss) : OkS (canI ss) := ⟨Nk_can h.1, by rw [(can_perm ss).length_eq]; exact h.2.1, fun p hp => h.2.2 p (mem_can.mp hp)⟩
end DL
set_option Elab.async false
set_option linter.all false
set_option maxRecDepth 100000
set_option maxHeartbeats 400000
/-! DRe: sweeps: what the program's defs answer. -/
namespace DL
open PySem L2
/-! ### equal lists of ints, tuples of pairs -/
theorem pyInts : ∀ ns : List Int, toPyL (ns.map .int) = some (ns.map PyData.int) ∧ PyData.canLayAll0 (ns.map PyData.int) = true ∧ PyData.depthAll (ns.map PyData.int) ≤ 0
  | [] => ⟨by unfold toPyL; rfl, by unfold PyData.canLayAll0; rfl, by unfold PyData.depthAll; exact Nat.le_refl _⟩
  | n :: ns => by
    obtain ⟨h1, h2, h3⟩ := pyInts ns
    refine ⟨?_, ?_, ?_⟩
    · rw [List.map_cons]; unfold toPyL; rw [h1]; unfold toPy; rfl
    · rw [List.map_cons]; unfold PyData.canLayAll0; rw [h2]; unfold PyData.canLay0; rfl
    · rw [List.map_cons]; unfold PyData.depthAll; unfold PyData.depth; omega
theorem eqvAll_ints : ∀ ns ms : List Int, PyData.eqvAll (ns.map PyData.int) (ms.map PyData.int) = decide (ns = ms)
  | [], [] => by unfold PyData.eqvAll; rfl
  | [], m :: ms => by rw [List.map_cons]; unfold PyData.eqvAll; rfl
  | n :: ns, [] => by rw [List.map_cons]; unfold PyData.eqvAll; rfl
  | n :: ns, m :: ms => by
    rw [List.map_cons, List.map_cons]
    unfold PyData.eqvAll
    rw [eqvAll_ints ns ms]
    unfold PyData.eqv
    by_cases h : n = m
    · by_cases h2 : ns = ms
      · simp [h, h2]
      · simp [h, h2]
    · simp [h]
theorem eqP_ints {o o' : Bool} {ns ms : List Int} : eqP (.lst o (ns.map .int)) (.lst o' (ms.map .int)) = some (decide (ns = ms)) := by
  obtain ⟨h1, h2, h3⟩ := pyInts ns
  obtain ⟨g1, g2, g3⟩ := pyInts ms
  have e1 : toPy (.lst o (ns.map .int)) = some (.list (ns.map PyData.int)) := by unfold toPy; rw [h1]; rfl
  have e2 : toPy (.lst o' (ms.map .int)) = some (.list (ms.map PyData.int)) := by unfold toPy; rw [g1]; rfl
  have s1 : SeqAt.shaped (.list (ns.map PyData.int)) = true := by
    unfold SeqAt.shaped
    rw [Bool.and_eq_true]
    exact ⟨by unfold PyData.canLay0; exact h2, decide_eq_true (by unfold PyData.depth; omega)⟩
  have s2 : SeqAt.shaped (.list (ms.map PyData.int)) = true := by
    unfold SeqAt.shaped
    rw [Bool.and_eq_true]
    exact ⟨by unfold PyData.canLay0; exact g2, decide_eq_true (by unfold PyData.depth; omega)⟩
  unfold eqP
  rw [e1, e2, Option.bind_some, Option.bind_some, s1, s2]
  unfold PyData.eqv
  rw [eqvAll_ints]
  rfl
theorem ne_ints {o o' : Bool} {ns ms : List Int} : fNeA (.lst o (ns.map .int)) (.lst o' (ms.map .int)) = some (.bl (!decide (ns = ms))) := by
  rw [fNeA_lst]; unfold fNe; rw [eqP_ints]; rfl
theorem eq_ints {o o' : Bool} {ns ms : List Int} : fEqA (.lst o (ns.map .int)) (.lst o' (ms.map .int)) = some (.bl (decide (ns = ms))) := by
  rw [fEqA_lst]; unfold fEq; rw [eqP_ints]; rfl
theorem ne_nil {o o' : Bool} {ns : List Int} : fNeA (.lst o (ns.map .int)) (.lst o' []) = some (.bl (!decide (ns = []))) := ne_ints (ms := [])
theorem okE_pI : ∀ {m : PL}, okEL (pI m) = true ∧ depL (pI m) ≤ 1
  | [] => ⟨by unfold pI okEL; rfl, by unfold pI depL; simp⟩
  | p :: m => by
    obtain ⟨h1, h2⟩ := okE_pI (m := m)
    have e1 : okE (.tup [.int p.1, .int p.2]) = true := by unfold okE okEL okE okEL okE okEL; rfl
    have e2 : dep (.tup [.int p.1, .int p.2]) = 1 := rfl
    refine ⟨?_, ?_⟩
    · show okEL (prD p :: pI m) = true; unfold okEL prD; rw [e1, h1]; rfl
    · show depL (prD p :: pI m) ≤ 1; unfold depL prD; rw [e2]; omega
theorem eq_pI {m : PL} : fEqA (.tup (pI m)) (.tup (pI m)) = some (.bl true) := fEqA_same (by unfold okE; exact okE_pI.1) (by unfold dep; have := okE_pI (m := m).2; omega) rfl
/-! ### slices -/
theorem cut1U {ns : List Int} : cutD (ns.map .int) none (some 1) = (ns.take 1).map .int := by
  unfold cutD
  show ((ns.map D.int).drop 0).take (min 1 (ns.map D.int).length - 0) = _
  rw [List.drop_zero, Nat.sub_zero, List.map_take]
  cases ns with
  | nil => rfl
  | cons n ns => simp
theorem cut1L {ns : List Int} : cutD (ns.map .int) (some 1) none = ns.tail.map .int := by
  unfold cutD
  show ((ns.map D.int).drop (min 1 (ns.map D.int).length)).take ((ns.map D.int).length - min 1 (ns.map D.int).length) = _
  cases ns with
  | nil => rfl
  | cons n ns =>
    have : min 1 ((n :: ns).map D.int).length = 1 := by simp
    rw [this]
    simp [List.take_of_length_le]
theorem slU1 {o : Bool} {ns : List Int} : fSlU (.lst o (ns.map .int)) (.int 1) = some (.lst true ((ns.take 1).map .int)) := by
  show (if frozL (ns.map .int) = true then some (D.lst true (cutD (ns.map .int) none (some 1))) else none) = _
  rw [if_pos (frozL_int ns), cut1U]
theorem slL1 {o : Bool} {ns : List Int} : fSlL (.lst o (ns.map .int)) (.int 1) = some (.lst true (ns.tail.map .int)) := by
  show (if frozL (ns.map .int) = true then some (D.lst true (cutD (ns.map .int) (some 1) none)) else none) = _
  rw [if_pos (frozL_int ns), cut1L]
theorem ix0 {o : Bool} {n : Int} {ns : List Int} : fIx (.lst o ((n :: ns).map .int)) (.int 0) = some (.int n) := by
  rw [fIx_lst]
  have : atI ((n :: ns).map D.int) 0 = some (.int n) := by unfold atI ixN; simp
  rw [this]; simp
/-! ### one step -/
def wD (s : Int) (w : W5) : D := .tup [.int (s * w.1), .int w.2.1, .int w.2.2.1, .int w.2.2.2.1, .int w.2.2.2.2]
@[simp] theorem froz_wD {s : Int} {w : W5} : froz (wD s w) = true := by unfold wD; simp
@[simp] theorem fz_wD {s : Int} {w : W5} : fz (wD s w) = wD s w := by unfold wD; simp
@[simp] theorem isUn_wD {s : Int} {w : W5} : isUn (wD s w) = false := by unfold wD; simp
@[simp] theorem isSl_wD {s : Int} {w : W5} : isSl (wD s w) = false := by unfold wD; simp
def wsD (s : Int) (W : List W5) : List D := W.map (wD s)
@[simp] theorem len_wsD {s : Int} {W : List W5} : (wsD s W).length = W.length := List.length_map ..
@[simp] theorem frozL_wsD {s : Int} : ∀ {W : List W5}, frozL (wsD s W) = true
  | [] => rfl
  | w :: W => by show frozL (wD s w :: wsD s W) = true; rw [frozL_cons, frozL_wsD, froz_wD]; rfl
@[simp] theorem fzL_wsD {s : Int} : ∀ {W : List W5}, fzL (wsD s W) = wsD s W
  | [] => rfl
  | w :: W => by show fzL (wD s w :: wsD s W) = wD s w :: wsD s W; rw [fzL_cons, fzL_wsD, fz_wD]
theorem wsD_snoc {s : Int} {W : List W5} {w : W5} : wsD s W ++ [wD s w] = wsD s (W ++ [w]) := by unfold wsD; rw [List.map_append]; rfl
theorem passage_pP {c b z a : Int} : f_passage [.int c, .int b, .int z, .int a] = .ok (.tup [.int (pN c b z a), .int (pL c b z a)]) [.int c, .int b, .int z, .int a] := passage_ok
/-- counts and capacities in the carrier's direction -/
def Gc (cs : PL) (s : Int) : Int → Int := fun y => (lkI cs (s * y)).getD 0
def Hc (ss : PL) (s : Int) : Int → Int := fun y => (lkI ss (s * y)).getD 1
theorem sgn_mul {s y z : Int} (hs : s = 1 ∨ s = -1) : s * y = s * z ↔ y = z := by
  rcases hs with rfl | rfl <;> omega
theorem turn_ok {cs ss : PL} {c s l x : Int} {left : List Int} {W : List W5} {z7 z8 z9 : D} (hs : s = 1 ∨ s = -1) (hW : W.length < 1000) (hne : ¬ (l = 0 ∧ left = [])) :
    b_steps_along_3_b [rowD cs ss, .int c, .int s, .lst true (left.map .int), .lst true (wsD s W), .int l, .int (s * x), z7, z8, z9, .un] =
      .nx [rowD cs ss, .int c, .int s, .lst true ((nxLeft left (nxAt left l x)).map .int), .lst true (wsD s (W ++ [stp (Gc cs s) (Hc ss s) c l (nxAt left l x)])),
        .int (pL c l (Hc ss s (nxAt left l x)) (Gc cs s (nxAt left l x))), .int (s * (nxAt left l x + 1)), .int (Gc cs s (nxAt left l x)),
        .int (pN c l (Hc ss s (nxAt left l x)) (Gc cs s (nxAt left l x))), .int (pL c l (Hc ss s (nxAt left l x)) (Gc cs s (nxAt left l x))), .un] := by
  have s1 : b_steps_along_3_1 [rowD cs ss, .int c, .int s, .lst true (left.map .int), .lst true (wsD s W), .int l, .int (s * x), z7, z8, z9, .un] =
      .nx [rowD cs ss, .int c, .int s, .lst true (left.map .int), .lst true (wsD s W), .int l, .int (s * nxAt left l x), z7, z8, z9, .un] := by
    unfold b_steps_along_3_1 nxAt
    by_cases h0 : l = 0
    · cases left with
      | nil => exact absurd ⟨h0, rfl⟩ hne
      | cons n ns =>
        have e := ix0 (o := true) (n := n) (ns := ns)
        have cm : cMul s n = true := by rcases hs with rfl | rfl <;> simp [cMul]
        rw [List.map_cons] at e ⊢
        simp [h0, e, cm]
    · simp [h0]
  generalize hy : nxAt left l x = y at *
  have s2 : b_steps_along_3_2 [rowD cs ss, .int c, .int s, .lst true (left.map .int), .lst true (wsD s W), .int l, .int (s * y), z7, z8, z9, .un] =
      .nx [rowD cs ss, .int c, .int s, .lst true ((nxLeft left y).map .int), .lst true (wsD s W), .int l, .int (s * y), z7, z8, z9, .un] := by
    have cm : ∀ z, cMul s z = true := fun z => by rcases hs with rfl | rfl <;> simp [cMul]
    have ss1 : s * (s * y) = y := by rw [← Int.mul_assoc]; rcases hs with rfl | rfl <;> simp
    unfold b_steps_along_3_2 nxLeft
    cases left with
    | nil =>
      have e := ne_nil (o := true) (o' := true) (ns := [])
      rw [List.map_nil] at e ⊢
      simp [e]
    | cons n ns =>
      have e := ne_nil (o := true) (o' := true) (ns := n :: ns)
      have e2 := ix0 (o := true) (n := n) (ns := ns)
      have e3 := slL1 (o := true) (ns := n :: ns)
      have fz0 := frozL_int (n :: ns)
      rw [List.map_cons] at e e2 e3 fz0 ⊢
      by_cases h : n = y
      · subst h
        simp [e, e2, e3, cm, ss1]
      · simp [e, e2, e3, cm, ss1, h]
  have hh : f_Row_held [rowD cs ss, .int (s * y)] = .ok (.int (Gc cs s y)) [rowD cs ss, .int (s * y)] := held_ok
  have hc : f_Row_capacity [rowD cs ss, .int (s * y)] = .ok (.int (Hc ss s y)) [rowD cs ss, .int (s * y)] := capacity_ok
  have hp := passage_pP (c := c) (b := l) (z := Hc ss s y) (a := Gc cs s y)
  have hl : W.length < 16777216 := by omega
  have e6 : s * y + s = s * (y + 1) := by rw [Int.mul_add, Int.mul_one]
  have e5 := wsD_snoc (s := s) (W := W) (w := stp (Gc cs s) (Hc ss s) c l y)
  unfold wD stp at e5
  unfold b_steps_along_3_b
  unfold b_steps_along_3_3 b_steps_along_3_4 b_steps_along_3_5 b_steps_along_3_6
  simp [s1, s2, ob_held, ob_capacity, hh, hc, hp, isL, mAppend, hl, e6, e5, sizeLine_eq, stp]
theorem cond_ok {cs ss : PL} {c s l x : Int} {left : List Int} {W : List W5} {z6 z7 z8 z9 : D} (h0 : 0 ≤ l) :
    (dOr (dTest (dOp fGt (dVar 5) (dC (.int 0)))) (dTest (dOp fNeA (dVar 3) (dLst (dNil))))) [rowD cs ss, .int c, .int s, .lst true (left.map .int), .lst true (wsD s W), .int l, z6, z7, z8, z9, .un] =
      .ok (!decide (l = 0 ∧ left = [])) [rowD cs ss, .int c, .int s, .lst true (left.map .int), .lst true (wsD s W), .int l, z6, z7, z8, z9, .un] := by
  have e := ne_nil (o := true) (o' := true) (ns := left)
  by_cases h : 0 < l
  · have : ¬ l = 0 := by omega
    simp [h, this]
  · have : l = 0 := by omega
    simp [e, this]
theorem while_nx {c : Dn Bool} {body : Sn} {env e1 e2 : List D} (h : c env = .ok true e1) (h2 : body e1 = .nx e2) : whileD c body env = whileD c body e2 := by
  rw [whileD_step, h]
  show (match body e1 with
    | .nx e2 => whileD c body e2
    | .ct e2 => whileD c body e2
    | .bk e2 => .nx e2
    | r => r) = _
  rw [h2]
theorem while_end {c : Dn Bool} {body : Sn} {env e1 : List D} (h : c env = .ok false e1) : whileD c body env = .nx e1 := by
  rw [whileD_step, h]
  rfl
theorem along_go {cs ss : PL} {c s : Int} (hs : s = 1 ∨ s = -1) : ∀ {n : Nat} {left : List Int} {l x b : Int} {W : List W5} {z7 z8 z9 : D}, WI (Gc cs s) (Hc ss s) c left l x b → meas (Gc cs s) left l ≤ n → W.length + n < 1000 →
    ∃ y6 y7 y8 y9, b_steps_along_3 [rowD cs ss, .int c, .int s, .lst true (left.map .int), .lst true (wsD s W), .int l, .int (s * x), z7, z8, z9, .un] =
      .nx [rowD cs ss, .int c, .int s, .lst true [], .lst true (wsD s (W ++ wgo (Gc cs s) (Hc ss s) c n left l x)), .int 0, y6, y7, y8, y9, .un] := by
  intro n
  induction n with
  | zero =>
    intro left l x b W z7 z8 z9 wi hm hW
    have h0 := meas_nn wi
    have s0 := sum_pos fun k hk => (wi.hl k hk).2.1
    have l0 := wi.l0
    have e : l = 0 := by unfold meas at hm; omega
    have e2 : left = [] := by
      cases left with
      | nil => rfl
      | cons k r =>
        have := (wi.hl k List.mem_cons_self).2.1
        have := sum_pos (left := r) fun q hq => (wi.hl q (List.mem_cons_of_mem _ hq)).2.1
        unfold meas at hm
        rw [List.map_cons, List.sum_cons] at hm
        omega
    subst e e2
    refine ⟨.int (s * x), z7, z8, z9, ?_⟩
    unfold b_steps_along_3
    rw [while_end (cond_ok (x := x) (Int.le_refl 0))]
    unfold wgo
    rw [List.append_nil]
    rfl
  | succ n ih =>
    intro left l x b W z7 z8 z9 wi hm hW
    unfold b_steps_along_3
    have co := cond_ok (cs := cs) (ss := ss) (c := c) (s := s) (x := x) (left := left) (W := W) (z6 := .int (s * x)) (z7 := z7) (z8 := z8) (z9 := z9) wi.l0
    by_cases hst : l = 0 ∧ left = []
    · rw [decide_eq_true hst] at co
      obtain ⟨rfl, rfl⟩ := hst
      refine ⟨.int (s * x), z7, z8, z9, ?_⟩
      rw [while_end co]
      unfold wgo
      rw [if_pos ⟨rfl, rfl⟩, List.append_nil]
      rfl
    · obtain ⟨yb, lt, g0, gH, wi2, ml, hz, hx, hg, all⟩ := wi.next hst
      have t := turn_ok (cs := cs) (ss := ss) (c := c) (l := l) (x := x) (left := left) (W := W) (z7 := z7) (z8 := z8) (z9 := z9) hs (by omega) hst
      obtain ⟨y6, y7, y8, y9, e⟩ := ih (W := W ++ [stp (Gc cs s) (Hc ss s) c l (nxAt left l x)]) (z7 := .int (Gc cs s (nxAt left l x))) (z8 := .int (pN c l (Hc ss s (nxAt left l x)) (Gc cs s (nxAt left l x)))) (z9 := .int (pL c l (Hc ss s (nxAt left l x)) (Gc cs s (nxAt left l x)))) wi2 (by omega) (by simp; omega)
      refine ⟨y6, y7, y8, y9, ?_⟩
      unfold b_steps_along_3 at e
      rw [decide_eq_false hst] at co
      unfold wgo
      rw [if_neg hst, while_nx co t, e, List.append_assoc]
      rfl
/-! ### all steps -/
def sgK (s : Int) (cs : PL) : List Int := cs.map fun p => s * p.1
def lft (s : Int) (cs : PL) : List Int := (sgK s cs).mergeSort (· ≤ ·)
theorem sum_permI {a b : List Int} (h : a.Perm b) : a.sum = b.sum := by
  induction h with
  | nil => rfl
  | cons x _ ih => rw [List.sum_cons, List.sum_cons, ih]
  | swap x y l => rw [List.sum_cons, List.sum_cons, List.sum_cons, List.sum_cons]; omega
  | trans _ _ h1 h2 => rw [h1, h2]
theorem mem_lft {s k : Int} {cs : PL} : k ∈ lft s cs ↔ ∃ j, j ∈ keysI cs ∧ k = s * j := by
  unfold lft sgK
  rw [(List.mergeSort_perm _ _).mem_iff, List.mem_map]
  constructor
  · rintro ⟨p, h1, h2⟩; exact ⟨p.1, mem_keys.mpr ⟨p.2, h1⟩, h2.symm⟩
  · rintro ⟨j, h1, h2⟩
    obtain ⟨v, hv⟩ := mem_keys.mp h1
    exact ⟨(j, v), hv, h2.symm⟩
theorem sq1 {s : Int} (hs : s = 1 ∨ s = -1) : s * s = 1 := by rcases hs with rfl | rfl <;> rfl
theorem sgsg {s k : Int} (hs : s = 1 ∨ s = -1) : s * (s * k) = k := by rw [← Int.mul_assoc, sq1 hs, Int.one_mul]
theorem lft_asc {s : Int} {cs : PL} (hs : s = 1 ∨ s = -1) (hn : Nk cs) : (lft s cs).Pairwise (· < ·) := by
  have s2 : (lft s cs).Pairwise (fun a b : Int => decide (a ≤ b) = true) := List.pairwise_mergeSort (le := fun a b : Int => decide (a ≤ b)) (fun a b c h1 h2 => by simp only [decide_eq_true_eq] at *; omega) (fun a b => by simp only [Bool.or_eq_true, decide_eq_true_eq]; omega) (sgK s cs)
  have nd : (lft s cs).Nodup := by
    unfold lft
    rw [(List.mergeSort_perm _ _).nodup_iff]
    unfold sgK List.Nodup
    unfold Nk keysI List.Nodup at hn
    rw [List.pairwise_map] at *
    exact hn.imp fun h e => h ((sgn_mul hs).mp e)
  unfold List.Nodup at nd
  refine (s2.and nd).imp fun {a b} hab => ?_
  obtain ⟨h1, h2⟩ := hab
  have := of_decide_eq_true h1
  omega
theorem meas_lft {s : Int} {cs : PL} (hs : s = 1 ∨ s = -1) (hn : Nk cs) : meas (Gc cs s) (lft s cs) 0 = totI cs + cs.length := by
  have go : ∀ {m : PL}, (∀ p ∈ m, lkI cs p.1 = some p.2) → ((sgK s m).map fun k => Gc cs s k + 1).sum = totI m + m.length := by
    intro m
    induction m with
    | nil => intro _; unfold sgK totI; simp
    | cons p m ih =>
      intro h
      show ((Gc cs s (s * p.1) + 1) :: ((sgK s m).map fun k => Gc cs s k + 1)).sum = _
      rw [List.sum_cons, ih fun q hq => h q (List.mem_cons_of_mem _ hq), tot_cons, List.length_cons]
      unfold Gc
      rw [sgsg hs, h p List.mem_cons_self]
      show p.2 + 1 + (totI m + m.length) = p.2 + totI m + ((m.length + 1 : Nat) : Int)
      push_cast
      omega
  unfold meas lft
  rw [sum_permI ((List.mergeSort_perm (sgK s cs) (· ≤ ·)).map _), go fun p hp => (lk_mem hn).mpr hp]
  omega
theorem WI_start {cs ss : PL} {c s x : Int} (hs : s = 1 ∨ s = -1) (hc : OkC cs ss) (hS : OkS ss) (h1 : 1 ≤ c) : WI (Gc cs s) (Hc ss s) c (lft s cs) 0 x ((lft s cs).headD 0) := by
  have asc := lft_asc hs hc.1
  refine ⟨h1, fun y => ?_, asc, fun k hk => ?_, Int.le_refl 0, by omega, fun h => absurd rfl h, fun y _ hy => ?_⟩
  · unfold Hc
    cases e : lkI ss (s * y) with
    | none => show (1 : Int) ≤ 1; omega
    | some v =>
      have := hS.2.2 (s * y, v) ((lk_mem hS.1).mp e)
      show 1 ≤ v
      have := this.2.2.1
      simp only at this
      omega
  · refine ⟨?_, ?_⟩
    · cases h : lft s cs with
      | nil => rw [h] at hk; exact absurd hk List.not_mem_nil
      | cons j r =>
        rw [h] at hk asc
        show j ≤ k
        rcases List.mem_cons.mp hk with e | e
        · omega
        · have := (List.pairwise_cons.mp asc).1 k e; omega
    · obtain ⟨j, hj, rfl⟩ := mem_lft.mp hk
      obtain ⟨v, hv⟩ := mem_keys.mp hj
      have := hc.2.1 (j, v) hv
      unfold Gc Hc
      rw [sgsg hs, (lk_mem hc.1).mpr hv]
      exact this
  · unfold Gc
    have : lkI cs (s * y) = none := lkI_none.mpr fun z => hy (mem_lft.mpr ⟨s * y, z, (sgsg hs).symm⟩)
    rw [this]; rfl
/-- the steps of a carrier along a row -/
def walkW (cs ss : PL) (c s : Int) : List W5 := wgo (Gc cs s) (Hc ss s) c 100 (lft s cs) 0 0
theorem lft_sort {s : Int} {cs : PL} {o : Bool} : fSortA [.lst o ((sgK s cs).map .int)] = some (.lst true ((lft s cs).map .int)) := sortA_i
theorem steps_ok {cs ss : PL} {c s : Int} (hs : s = 1 ∨ s = -1) (hc : OkC cs ss) (hS : OkS ss) (h1 : 1 ≤ c) : f_steps_along [rowD cs ss, .int c, .int s] = .ok (.lst true (wsD s (walkW cs ss c s))) [rowD cs ss, .int c, .int s] := by
  have hlen := hc.len
  have hl : cs.length < sizeLine := by rw [sizeLine_eq]; omega
  have cm : ∀ z, cMul s z = true := fun z => by rcases hs with rfl | rfl <;> simp [cMul]
  have e1 : c_steps_along_1 [rowD cs ss, .int c, .int s, .un, .un, .un, .un, .un, .un, .un, .un] = .ok (.lst true ((sgK s cs).map .int)) [rowD cs ss, .int c, .int s, .un, .un, .un, .un, .un, .un, .un, .un] := by
    have e : (sgK s cs).map D.int = cs.map fun p => .int (s * p.1) := by unfold sgK; rw [List.map_map]; rfl
    rw [e]
    unfold c_steps_along_1
    refine dLc_ok (ks := [.tup (pI cs)]) (xs := pI cs) (env1 := [rowD cs ss, .int c, .int s, .un, .un, .un, .un, .un, .un, .un, .un]) (by simp [ob_prop, contents_ok]) rfl (comp_all prD (fun p => .int (s * p.1)) cs (fun p hp => ⟨[rowD cs ss, .int c, .int s, .un, .un, .un, .un, .int p.2, .un, .un, .int p.1], [rowD cs ss, .int c, .int s, .un, .un, .un, .un, .int p.2, .un, .un, .int p.1], tg2, ?_, rfl⟩) hl) rfl
    simp [cm]
  have mz := meas_lft hs hc.1 (cs := cs) (s := s)
  obtain ⟨y6, y7, y8, y9, e3⟩ := along_go hs (n := 100) (W := []) (z7 := .un) (z8 := .un) (z9 := .un) (WI_start (x := 0) hs hc hS h1) (by have := hc.2.2; omega) (by simp)
  rw [Int.mul_zero] at e3
  have e4 := lft_sort (s := s) (cs := cs) (o := true)
  have w0 : wsD s [] = [] := rfl
  rw [w0, List.nil_append] at e3
  unfold f_steps_along b_steps_along b_steps_along_1 b_steps_along_2 b_steps_along_4
  unfold walkW
  simp [e1, e3, e4]
end DL
set_option Elab.async false
set_option linter.all false
set_option maxRecDepth 100000
set_option maxHeartbeats 400000
/-! DRf: sweeps: rows behind steps. -/
namespace DL
open PySem L2
/-- a row as it is told: ascending -/
structure OkR (cs ss : PL) : Prop where
  c : OkC cs ss
  s : OkS ss
  ca : Asc cs
  sa : Asc ss
theorem OkC.can {cs ss : PL} (h : OkC cs ss) : OkC (canI cs) ss := can_okC h fun _ => rfl
theorem OkR.mk' {m ss : PL} (h : OkC m ss) (s : OkS ss) (sa : Asc ss) : OkR (canI m) ss := ⟨h.can, s, can_asc h.1, sa⟩
theorem row_with_ok {m ss : PL} (hc : OkC (posI m) ss) (hS : OkS ss) (hl : m.length ≤ 4000) : f_row_with [.dct true (kI m) (vI m), .tup (pI ss)] = .ok (rowD (canI (posI m)) (canI ss)) [.dct false (kI m) (vI m), .tup (pI ss)] := by
  have hs : m.length < sizeLine := by rw [sizeLine_eq]; omega
  have cm : c_row_with_1 [.dct true (kI m) (vI m), .tup (pI ss), .un, .un] = .ok (.lst true (pI (posI m))) [.dct false (kI m) (vI m), .tup (pI ss), .un, .un] := by
    unfold c_row_with_1
    refine dLc_ok (ks := [.dct false (kI m) (vI m)]) (xs := pI m) (env1 := [.dct false (kI m) (vI m), .tup (pI ss), .un, .un]) (by simp [items_I]) rfl
      (comp_go prD prD (fun p => decide (0 < p.2)) m [] (fun p hp => ⟨[.dct false (kI m) (vI m), .tup (pI ss), .int p.1, .int p.2], [.dct false (kI m) (vI m), .tup (pI ss), .int p.1, .int p.2], tg2, by simp, ?_⟩) (by simpa using hs)) rfl
    by_cases h : 0 < p.2
    · rw [if_pos (decide_eq_true h)]
      exact ⟨[.dct false (kI m) (vI m), .tup (pI ss), .int p.1, .int p.2], by simp [prD, sizeLine_eq], rfl⟩
    · rw [if_neg (by simpa using h)]
      rfl
  have ini := init_ok (.lst true) .tup hS hc
  unfold f_row_with b_row_with
  simp [cm, ini, rowD]
theorem asPut {k v : Int} {m : PL} (hn : Nk m) (hl : m.length < sizeLine) : ((asKey (.int k)).bind fun kk => putD (.dct true (kI m) (vI m)) kk (.int v)) = some (.dct true (kI (putI m (k, v))) (vI (putI m (k, v)))) := putD_I hn hl
theorem tg5 {a b c d e : Nat} {s : Int} {w : W5} {env : List D} : tgTup [tgName a, tgName b, tgName c, tgName d, tgName e] (wD s w) env = some (((((env.set a (.int (s * w.1))).set b (.int w.2.1)).set c (.int w.2.2.1)).set d (.int w.2.2.2.1)).set e (.int w.2.2.2.2)) := by unfold wD; simp
theorem after_go {s : Int} {r st : D} : ∀ {W : List W5} {m : PL} {x3 x4 x5 x6 x7 : D}, Nk m → m.length + W.length < 10000 →
    ∃ y3 y4 y5 y6 y7, forD (tgTup [tgName 3, tgName 4, tgName 5, tgName 6, tgName 7]) b_row_after_2_b (wsD s W) [r, st, .dct true (kI m) (vI m), x3, x4, x5, x6, x7] = .nx [r, st, .dct true (kI (aft s m W)) (vI (aft s m W)), y3, y4, y5, y6, y7]
  | [], m, x3, x4, x5, x6, x7, _, _ => ⟨x3, x4, x5, x6, x7, rfl⟩
  | w :: W, m, x3, x4, x5, x6, x7, hn, hl => by
    rw [List.length_cons] at hl
    have l2 := len_put (p := (s * w.1, w.2.2.2.2)) hn
    obtain ⟨y3, y4, y5, y6, y7, e⟩ := after_go (s := s) (r := r) (st := st) (W := W) (m := putI m (s * w.1, w.2.2.2.2)) (x3 := .int (s * w.1)) (x4 := .int w.2.1) (x5 := .int w.2.2.1) (x6 := .int w.2.2.2.1) (x7 := .int w.2.2.2.2) (Nk_put hn) (by omega)
    refine ⟨y3, y4, y5, y6, y7, ?_⟩
    have hs : m.length < sizeLine := by rw [sizeLine_eq]; omega
    have b : b_row_after_2_b [r, st, .dct true (kI m) (vI m), .int (s * w.1), .int w.2.1, .int w.2.2.1, .int w.2.2.2.1, .int w.2.2.2.2] =
        .nx [r, st, .dct true (kI (putI m (s * w.1, w.2.2.2.2))) (vI (putI m (s * w.1, w.2.2.2.2))), .int (s * w.1), .int w.2.1, .int w.2.2.1, .int w.2.2.2.1, .int w.2.2.2.2] := by
      have p := putD_I (k := s * w.1) (v := w.2.2.2.2) hn hs
      unfold b_row_after_2_b b_row_after_2_1
      simp [p]
    show forD _ b_row_after_2_b (wD s w :: wsD s W) _ = _
    unfold forD
    rw [tg5]
    show (match b_row_after_2_b [r, st, .dct true (kI m) (vI m), .int (s * w.1), .int w.2.1, .int w.2.2.1, .int w.2.2.2.1, .int w.2.2.2.2] with
      | .nx e2 => forD _ b_row_after_2_b (wsD s W) e2
      | .ct e2 => forD _ b_row_after_2_b (wsD s W) e2
      | .bk e2 => .nx e2
      | r => r) = _
    rw [b]
    exact e
theorem row_after_ok {cs ss : PL} {s : Int} {W : List W5} {o : Bool} (h : OkR cs ss) (hc : OkC (posI (aft s cs W)) ss) (hl : cs.length + W.length ≤ 4000) :
    f_row_after [rowD cs ss, .lst o (wsD s W)] = .ok (rowD (canI (posI (aft s cs W))) ss) [rowD cs ss, .lst false (wsD s W)] := by
  have c0 := counts_of_ok (ss := ss) h.c.1
  obtain ⟨y3, y4, y5, y6, y7, g⟩ := after_go (s := s) (r := rowD cs ss) (st := .lst false (wsD s W)) (W := W) (m := cs) (x3 := .un) (x4 := .un) (x5 := .un) (x6 := .un) (x7 := .un) h.c.1 (by omega)
  have rw0 := row_with_ok hc h.s (by have := len_aft (s := s) (W := W) h.c.1; omega)
  rw [can_of_asc h.sa] at rw0
  unfold f_row_after b_row_after b_row_after_1 b_row_after_2 b_row_after_3
  cases o <;> simp [c0, g, rw0, ob_prop, capacities_ok]
/-- the items behind a sweep (1) or an inverse sweep (-1) -/
def swpI (cs ss : PL) (c s : Int) : PL := canI (posI (aft s cs (walkW cs ss c s)))
theorem walk_ok {cs ss : PL} {c s : Int} (hs : s = 1 ∨ s = -1) (h : OkR cs ss) (h1 : 1 ≤ c) :
    Chn (Gc cs s) (Hc ss s) c ((lft s cs).headD 0) 0 (walkW cs ss c s) ∧ lastL 0 (walkW cs ss c s) = 0 ∧ (∀ k ∈ lft s cs, k ∈ (walkW cs ss c s).map (·.1)) ∧ ((walkW cs ss c s).length : Int) ≤ totI cs + cs.length := by
  have mz := meas_lft hs h.c.1
  have := wgo_ok (n := 100) (WI_start (x := 0) hs h.c h.s h1) (by have := h.c.2.2; have := h.c.len; omega)
  rw [mz] at this
  exact this
theorem walk_len {cs ss : PL} {c s : Int} (hs : s = 1 ∨ s = -1) (h : OkR cs ss) (h1 : 1 ≤ c) : (walkW cs ss c s).length ≤ 80 := by
  have := (walk_ok hs h h1).2.2.2
  have := h.c.2.2
  have := h.c.len
  omega
/-- any first steps lead to a row -/
theorem part_ok {cs ss : PL} {c s x : Int} {W : List W5} (hs : s = 1 ∨ s = -1) (h : OkR cs ss) (hW : Chn (Gc cs s) (Hc ss s) c x 0 W) : OkC (posI (aft s cs W)) ss ∧ totI (posI (aft s cs W)) = totI cs - lastL 0 W := by
  have wk := wk_aft (s := s) (cp := fun k => (lkI ss k).getD 1) (H := Hc ss s) (fun y => rfl) hW (ok_wk h.c)
  have t := tot_aft (sq1 hs) hW h.c.1 (fun y _ => rfl)
  have nn := hW.nn (Int.le_refl 0)
  have t2 := h.c.2.2
  refine ⟨pos_ok wk (by omega) fun _ => rfl, ?_⟩
  rw [tot_pos fun p hp => (wk.2 p.1 p.2 ((lk_mem wk.1).mpr hp)).1]
  omega
theorem swp_ok {cs ss : PL} {c s : Int} (hs : s = 1 ∨ s = -1) (h : OkR cs ss) (h1 : 1 ≤ c) : OkR (swpI cs ss c s) ss ∧ totI (swpI cs ss c s) = totI cs := by
  obtain ⟨w1, w2, _, _⟩ := walk_ok hs h h1
  obtain ⟨p1, p2⟩ := part_ok hs h w1
  refine ⟨OkR.mk' p1 h.s h.sa, ?_⟩
  unfold swpI
  rw [tot_can, p2, w2]
  omega
theorem need_ok {c : Int} (h1 : 1 ≤ c) (h2 : c ≤ 99) : f_need_capacity [.int c] = .ok .non [.int c] := by
  have i := between_ok (d := .int c) (lo := 1) (hi := 99) rfl
  unfold f_need_capacity b_need_capacity
  simp [i, bet, h1, h2]
theorem swept_ok {cs ss : PL} {c : Int} (h : OkR cs ss) (h1 : 1 ≤ c) (h2 : c ≤ 99) : f_sweep [rowD cs ss, .int c] = .ok (rowD (swpI cs ss c 1) ss) [rowD cs ss, .int c] := by
  have n0 := need_ok h1 h2
  have st := steps_ok (.inl rfl) h.c h.s h1
  obtain ⟨w1, _, _, _⟩ := walk_ok (.inl rfl) h h1
  have wl := walk_len (.inl rfl) h h1
  have ra := row_after_ok (o := true) h (part_ok (.inl rfl) h w1).1 (by have := h.c.len; omega)
  unfold f_sweep b_sweep swpI
  simp [n0, st, ra]
theorem trace_ok {cs ss : PL} {c : Int} (h : OkR cs ss) (h1 : 1 ≤ c) (h2 : c ≤ 99) : f_trace [rowD cs ss, .int c] = .ok (.lst true (wsD 1 (walkW cs ss c 1))) [rowD cs ss, .int c] := by
  have n0 := need_ok h1 h2
  have st := steps_ok (.inl rfl) h.c h.s h1
  unfold f_trace b_trace
  simp [n0, st]
/-- how many are picked up -/
def pickI (c : Int) (W : List W5) : Int := (W.map fun w => upP c w.2.1 w.2.2.1).sum
theorem ix_w {s : Int} {w : W5} : fIx (wD s w) (.int 0) = some (.int (s * w.1)) ∧ fIx (wD s w) (.int 1) = some (.int w.2.1) ∧ fIx (wD s w) (.int 2) = some (.int w.2.2.1) ∧ fIx (wD s w) (.int 3) = some (.int w.2.2.2.1) ∧ fIx (wD s w) (.int 4) = some (.int w.2.2.2.2) := by
  unfold wD
  refine ⟨?_, ?_, ?_, ?_, ?_⟩ <;> simp [atI, ixN]
theorem picked_ok {cs ss : PL} {c : Int} (h : OkR cs ss) (h1 : 1 ≤ c) (h2 : c ≤ 99) : f_picked [rowD cs ss, .int c] = .ok (.int (pickI c (walkW cs ss c 1))) [rowD cs ss, .int c] := by
  have n0 := need_ok h1 h2
  have st := steps_ok (.inl rfl) h.c h.s h1
  have wl := walk_len (.inl rfl) h h1
  have hs : (walkW cs ss c 1).length < sizeLine := by rw [sizeLine_eq]; omega
  have cm : c_picked_1 [rowD cs ss, .int c, .un] = .ok (.lst true (((walkW cs ss c 1).map fun w => upP c w.2.1 w.2.2.1).map .int)) [rowD cs ss, .int c, .un] := by
    unfold c_picked_1
    rw [List.map_map]
    refine dLc_ok (ks := [.lst false (wsD 1 (walkW cs ss c 1))]) (xs := wsD 1 (walkW cs ss c 1)) (env1 := [rowD cs ss, .int c, .un]) (by simp [st]) rfl (comp_all (wD 1) _ (walkW cs ss c 1) (fun w hw => ⟨[rowD cs ss, .int c, wD 1 w], [rowD cs ss, .int c, wD 1 w], rfl, ?_, rfl⟩) hs) rfl
    obtain ⟨i0, i1, i2, i3, i4⟩ := ix_w (s := 1) (w := w)
    simp [i1, i2, upP]
  have sm := sumA_i (o := true) (ns := (walkW cs ss c 1).map fun w => upP c w.2.1 w.2.2.1)
  rw [show ((walkW cs ss c 1).map fun w => upP c w.2.1 w.2.2.1).sum = pickI c (walkW cs ss c 1) from rfl] at sm
  generalize ((walkW cs ss c 1).map fun w => upP c w.2.1 w.2.2.1) = ns at *
  unfold f_picked b_picked
  simp [n0, cm, sm]
/-! ### halfway -/
theorem lastL_snoc : ∀ {W : List W5} {w : W5} {l : Int}, lastL l (W ++ [w]) = w.2.2.2.1
  | [], w, l => rfl
  | v :: W, w, l => by
    show lastL v.2.2.2.1 (W ++ [w]) = _
    exact lastL_snoc
theorem ix_last {s : Int} {W : List W5} {w : W5} {o : Bool} (h : (W ++ [w]).length < 4000) : fIx (.lst o (wsD s (W ++ [w]))) (.int (-1)) = some (wD s w) := by
  rw [fIx_lst]
  have e : wsD s (W ++ [w]) = wsD s W ++ [wD s w] := wsD_snoc.symm
  have : atI (wsD s (W ++ [w])) (-1) = some (wD s w) := by
    rw [e]
    unfold atI ixN
    have l1 : (wsD s W ++ [wD s w]).length = W.length + 1 := by rw [List.length_append, len_wsD]; rfl
    rw [l1, if_neg (by omega), if_pos (by push_cast; omega)]
    have l2 : ((-1 : Int) + ((W.length + 1 : Nat) : Int)).toNat = W.length := by push_cast; omega
    show (wsD s W ++ [wD s w])[((-1 : Int) + ((W.length + 1 : Nat) : Int)).toNat]? = _
    rw [l2, List.getElem?_append_right (by rw [len_wsD]; exact Nat.le_refl _), len_wsD, Nat.sub_self]
    rfl
  rw [this]
  simp
theorem toPyL_ws {s : Int} : ∀ {W : List W5}, ∃ qs, toPyL (wsD s W) = some qs ∧ PyData.canLayAll0 qs = true ∧ PyData.depthAll qs ≤ 1 ∧ (qs = [] ↔ W = []) ∧ okEL (wsD s W) = true ∧ depL (wsD s W) ≤ 1
  | [] => ⟨[], by unfold wsD toPyL; rfl, by unfold PyData.canLayAll0; rfl, by unfold PyData.depthAll; omega, by simp, by unfold wsD okEL; rfl, by unfold wsD depL; simp⟩
  | w :: W => by
    obtain ⟨qs, h1, h2, h3, h4, h5, h6⟩ := toPyL_ws (s := s) (W := W)
    have eo : okE (wD s w) = true := by unfold wD okE okEL okE okEL okE okEL okE okEL okE okEL okE okEL; rfl
    have ed : dep (wD s w) = 1 := rfl
    obtain ⟨q, g1, g2, g3⟩ := okE_py (wD s w) eo
    refine ⟨q :: qs, ?_, ?_, ?_, by simp, ?_, ?_⟩
    · show toPyL (wD s w :: wsD s W) = _; unfold toPyL; rw [g1, h1]; rfl
    · unfold PyData.canLayAll0; rw [g2, h2]; rfl
    · unfold PyData.depthAll; rw [g3, ed]; omega
    · show okEL (wD s w :: wsD s W) = true; unfold okEL; rw [eo, h5]; rfl
    · show depL (wD s w :: wsD s W) ≤ 1; unfold depL; rw [ed]; omega
theorem ne_ws {s : Int} {W : List W5} {o o' : Bool} : fNeA (.lst o (wsD s W)) (.lst o' []) = some (.bl (!decide (W = []))) := by
  obtain ⟨qs, h1, h2, h3, h4, _, _⟩ := toPyL_ws (s := s) (W := W)
  have e1 : toPy (.lst o (wsD s W)) = some (.list qs) := by unfold toPy; rw [h1]; rfl
  have e2 : toPy (.lst o' []) = some (.list []) := by unfold toPy toPyL; rfl
  have s1 : SeqAt.shaped (.list qs) = true := by
    unfold SeqAt.shaped
    rw [Bool.and_eq_true]
    exact ⟨by unfold PyData.canLay0; exact h2, decide_eq_true (by unfold PyData.depth; omega)⟩
  have s2 : SeqAt.shaped (.list []) = true := by rfl
  have ev : PyData.eqv (.list qs) (.list []) = decide (W = []) := by
    unfold PyData.eqv
    cases qs with
    | nil => unfold PyData.eqvAll; rw [decide_eq_true (h4.mp rfl)]
    | cons q qs => unfold PyData.eqvAll; rw [decide_eq_false (fun z => by have := h4.mpr z; cases this)]
  rw [fNeA_lst]
  unfold fNe eqP
  rw [e1, e2, Option.bind_some, Option.bind_some, s1, s2, ev]
  rfl
theorem half_ok {cs ss : PL} {c i : Int} (h : OkR cs ss) (h1 : 1 ≤ c) (h2 : c ≤ 99) : f_halfway [rowD cs ss, .int c, .int i] =
    .ok (.tup [rowD (canI (posI (aft 1 cs ((walkW cs ss c 1).filter fun w => decide (w.1 ≤ i))))) ss, .int (lastL 0 ((walkW cs ss c 1).filter fun w => decide (w.1 ≤ i)))]) [rowD cs ss, .int c, .int i] := by
  have n0 := need_ok h1 h2
  have i0 := integer_ok (d := .int i) rfl
  have st := steps_ok (.inl rfl) h.c h.s h1
  have wl := walk_len (.inl rfl) h h1
  have hs : (walkW cs ss c 1).length < sizeLine := by rw [sizeLine_eq]; omega
  have cm : c_halfway_1 [rowD cs ss, .int c, .int i, .un, .un, .un] = .ok (.lst true (wsD 1 ((walkW cs ss c 1).filter fun w => decide (w.1 ≤ i)))) [rowD cs ss, .int c, .int i, .un, .un, .un] := by
    unfold c_halfway_1
    refine dLc_ok (ks := [.lst false (wsD 1 (walkW cs ss c 1))]) (xs := wsD 1 (walkW cs ss c 1)) (env1 := [rowD cs ss, .int c, .int i, .un, .un, .un]) (by simp [st]) rfl (comp_go (wD 1) (wD 1) (fun w => decide (w.1 ≤ i)) (walkW cs ss c 1) [] (fun w hw => ?_) (by simpa using hs)) rfl
    obtain ⟨i0, i1, i2, i3, i4⟩ := ix_w (s := 1) (w := w)
    refine ⟨[rowD cs ss, .int c, .int i, .un, .un, wD 1 w], [rowD cs ss, .int c, .int i, .un, .un, wD 1 w], rfl, by simp [i0], ?_⟩
    by_cases hh : w.1 ≤ i
    · rw [if_pos (decide_eq_true hh)]
      exact ⟨[rowD cs ss, .int c, .int i, .un, .un, wD 1 w], by simp, rfl⟩
    · rw [if_neg (by simpa using hh)]
      rfl
  obtain ⟨w1, _, _, _⟩ := walk_ok (.inl rfl) h h1
  have w2 := w1.upto i
  have fl : ((walkW cs ss c 1).filter fun w => decide (w.1 ≤ i)).length ≤ 80 := Nat.le_trans (List.length_filter_le _ _) wl
  generalize hW : (walkW cs ss c 1).filter (fun w => decide (w.1 ≤ i)) = W at *
  have ra := row_after_ok (o := true) h (part_ok (.inl rfl) h w2).1 (by have := h.c.len; omega)
  have nw := ne_ws (s := 1) (W := W) (o := true) (o' := true)
  unfold f_halfway b_halfway
  rcases List.eq_nil_or_concat W with e | ⟨W0, w, e⟩
  · subst e
    have e2 : lastL 0 [] = 0 := rfl
    simp [n0, i0, isI, cm, nw, ra, e2, sizeLine_eq]
  · rw [List.concat_eq_append] at e
    have e2 : lastL 0 W = w.2.2.2.1 := by rw [e, lastL_snoc]
    have e3 := ix_last (s := 1) (W := W0) (w := w) (o := true) (by rw [← e]; omega)
    rw [← e] at e3
    have e4 : ¬ (W = []) := by rw [e]; simp
    obtain ⟨_, _, _, i3, _⟩ := ix_w (s := 1) (w := w)
    simp [n0, i0, isI, cm, nw, ra, e2, e3, e4, i3, sizeLine_eq]
/-! ### == of rows -/
theorem ne_row : ¬ (("Row" : Str) = "") := by decide +kernel
theorem req_ok {cs ss : PL} : f_Row_eq [rowD cs ss, rowD cs ss] = .ok (.bl true) [rowD cs ss, rowD cs ss] := by
  have i : fIsO [] o_Row p_Row (rowD cs ss) = some (.bl true) := by
    show (o_Row.lookup ("Row" : Str)).map D.bl = _
    have : o_Row.lookup ("Row" : Str) = some true := by decide +kernel
    rw [this]; rfl
  unfold f_Row_eq b_Row_eq
  simp [i, ob_prop, contents_ok, capacities_ok, eq_pI]
theorem own_same {cs ss : PL} : ownEq "Row" f_Row_eq (rowD cs ss) (rowD cs ss) = some true := by
  have e := req_ok (cs := cs) (ss := ss)
  have g : okOther "Row" (rowD cs ss) = true := by unfold rowD okOther; simp
  show (if ("Row" : Str) = "Row" ∧ froz (rowD cs ss) = true ∧ froz (rowD cs ss) = true ∧ okOther "Row" (rowD cs ss) = true then match f_Row_eq [rowD cs ss, rowD cs ss] with
    | .ok (.bl k) _ => some k
    | _ => none
    else none) = _
  rw [if_pos ⟨rfl, froz_rowD, froz_rowD, g⟩, e]
theorem neX_row {cs ss : PL} : fNeX "Row" f_Row_eq (rowD cs ss) (rowD cs ss) = some (.bl false) := by
  unfold fNeX fOr fNeO
  rw [own_same]; rfl
theorem eqX_row {cs ss : PL} : fEqX "Row" f_Row_eq (rowD cs ss) (rowD cs ss) = some (.bl true) := by
  unfold fEqX fOr fEqO
  rw [own_same]; rfl
theorem ownEq_t {c : Str} {fden : List D → FR} {xs : List D} {y : D} : ownEq c fden (.tup xs) y = none := rfl
theorem ownEq_i {c : Str} {fden : List D → FR} {n : Int} {y : D} : ownEq c fden (.int n) y = none := rfl
theorem ownEq_s {c : Str} {fden : List D → FR} {x : Str} {y : D} : ownEq c fden (.str x) y = none := rfl
theorem neX_t {cs ss : PL} {n : Int} : fNeX "Row" f_Row_eq (.tup [rowD cs ss, .int n]) (.tup [rowD cs ss, .int n]) = some (.bl false) := by
  unfold fNeX fOr fNeO
  rw [ownEq_t]
  show (match fNeT "Row" f_Row_eq (.tup [rowD cs ss, .int n]) (.tup [rowD cs ss, .int n]) with
    | some d => some d
    | none => _) = _
  unfold fNeT
  dsimp only
  rw [if_pos ⟨rfl, own_same⟩]
theorem neX_int {i j : Int} : fNeX "Row" f_Row_eq (.int i) (.int j) = some (.bl (!(i == j))) := by
  unfold fNeX fOr fNeO
  rw [ownEq_i]
  show (match fNeT "Row" f_Row_eq (.int i) (.int j) with
    | some d => some d
    | none => fNeB (.int i) (.int j)) = _
  rw [neB_of (fNeA_int i j)]; rfl
theorem neX_list {o o' : Bool} {x : D} {xs : List D} (h : fNeA (.lst o (x :: xs)) (.lst o' []) = none) : fNeX "Row" f_Row_eq (.lst o (x :: xs)) (.lst o' []) = some (.bl true) := by
  unfold fNeX fOr fNeO
  show (match fNeT "Row" f_Row_eq (.lst o (x :: xs)) (.lst o' []) with
    | some d => some d
    | none => fNeB (.lst o (x :: xs)) (.lst o' [])) = _
  unfold fNeB fOr
  rw [h]
  rfl
theorem neX_nil {o o' : Bool} : fNeX "Row" f_Row_eq (.lst o []) (.lst o' []) = some (.bl false) := by
  unfold fNeX fOr fNeO
  show (match fNeT "Row" f_Row_eq (.lst o []) (.lst o' []) with
    | some d => some d
    | none => fNeB (.lst o []) (.lst o' [])) = _
  rw [neB_of (fNeA_same (by unfold okE okEL; rfl) (by unfold dep depL; omega) (by unfold toPy; rfl))]
  rfl
theorem neX_caps {ss : PL} : fNeX "Row" f_Row_eq (.tup (pI ss)) (.tup (pI ss)) = some (.bl false) := by
  have e : fNeA (.tup (pI ss)) (.tup (pI ss)) = some (.bl false) := fNeA_same (by unfold okE; exact okE_pI.1) (by unfold dep; have := okE_pI (m := ss).2; omega) rfl
  have t : fNeT "Row" f_Row_eq (.tup (pI ss)) (.tup (pI ss)) = none := by
    unfold fNeT
    match ss with
    | [] => rfl
    | [_] => rfl
    | [_, _] => rfl
    | _ :: _ :: _ :: _ => rfl
  unfold fNeX fOr fNeO
  rw [ownEq_t]
  show (match fNeT "Row" f_Row_eq (.tup (pI ss)) (.tup (pI ss)) with
    | some d => some d
    | none => fNeB (.tup (pI ss)) (.tup (pI ss))) = _
  rw [t]
  exact neB_of e
theorem neX_str {i j : Str} : fNeX "Row" f_Row_eq (.str i) (.str j) = some (.bl (!(i == j))) := by
  unfold fNeX fOr fNeO
  rw [ownEq_s]
  show (match fNeT "Row" f_Row_eq (.str i) (.str j) with
    | some d => some d
    | none => fNeB (.str i) (.str j)) = _
  rw [neB_of (fNeA_str i j)]; rfl
end DL
set_option Elab.async false
set_option linter.all false
set_option maxRecDepth 100000
set_option maxHeartbeats 400000
/-! DRg: what the laws draw: wide boxes, items. -/
namespace DL
open PySem L2
theorem mem_putR : ∀ {m : PL} {p q : Int × Int}, p ∈ putR m q → p = q ∨ p ∈ m
  | [], p, q, h => by unfold putR at h; exact .inl (List.mem_singleton.mp h)
  | r :: m, p, q, h => by
    unfold putR at h
    split at h
    · rename_i e
      rcases List.mem_cons.mp h with z | z
      · left; rw [z, e]
      · exact .inr (List.mem_cons_of_mem _ z)
    · rcases List.mem_cons.mp h with z | z
      · right; rw [z]; exact List.mem_cons_self
      · rcases mem_putR z with z | z
        · exact .inl z
        · exact .inr (List.mem_cons_of_mem _ z)
theorem mem_put {m : PL} {p q : Int × Int} (hn : Nk m) (h : p ∈ putI m q) : p = q ∨ p ∈ m := by rw [putI_R hn] at h; exact mem_putR h
theorem rng_ok {tg : D → List D → Option (List D)} {body : Sn} (I : Nat → List D → Prop) (n : Nat) (lo : Int) (env : List D) (h0 : I 0 env)
    (h : ∀ k e, k < n → I k e → ∃ e1 e2, tg (.int (lo + (k : Int))) e = some e1 ∧ body e1 = .nx e2 ∧ I (k + 1) e2) : ∃ e, forD tg body (dints lo n) env = .nx e ∧ I n e := by
  have go : ∀ (m k : Nat) (env : List D), k + m = n → I k env → ∃ e, forD tg body ((List.range' k m).map fun (i : Nat) => D.int (lo + (i : Int))) env = .nx e ∧ I n e := by
    intro m
    induction m with
    | zero => intro k env hk h0; exact ⟨env, rfl, by rw [← hk]; exact h0⟩
    | succ m ih =>
      intro k env hk h0
      obtain ⟨e1, e2, h1, h2, h3⟩ := h k env (by omega) h0
      obtain ⟨e, h4, h5⟩ := ih (k + 1) e2 (by omega) h3
      refine ⟨e, ?_, h5⟩
      rw [List.range'_succ, List.map_cons]
      unfold forD
      rw [h1]
      dsimp only
      rw [h2]
      exact h4
  have := go n 0 env (by omega) h0
  unfold dints
  rw [List.range_eq_range']
  exact this
/-- [(k, m[k]) for k in sorted(m)]: what such a comprehension makes, in whatever environment -/
theorem bld_comp {m : PL} {own : List Nat} {tg : D → List D → Option (List D)} {elt : Dn D} {env : List D} (hn : Nk m) (hl : m.length < sizeLine)
    (h : ∀ k v, lkI m k = some v → ∃ e1 e3, tg (.int k) env = some e1 ∧ dU elt e1 = .ok (.tup [.int k, .int v]) e3 ∧ wipeE e3 own = env) : compD own tg dYes elt (((keysI m).mergeSort (· ≤ ·)).map .int) [] env = .ok (pI (canI m)) env := by
  have e := comp_all (own := own) (tg := tg) (elt := elt) (env := env) D.int (fun k => prD (k, (lkI m k).getD 0)) ((keysI m).mergeSort (· ≤ ·)) (fun k hk => by
    have hk2 : k ∈ keysI m := (List.mergeSort_perm _ _).mem_iff.mp hk
    obtain ⟨v, hv⟩ := mem_keys.mp hk2
    have hv2 := (lk_mem hn).mpr hv
    obtain ⟨e1, e3, h1, h2, h3⟩ := h k v hv2
    refine ⟨e1, e3, h1, ?_, h3⟩
    rw [h2, hv2]
    rfl) (by rw [(List.mergeSort_perm _ _).length_eq]; unfold keysI; rw [List.length_map]; exact hl)
  rw [e, ← bld_can hn]
  unfold pI
  rw [List.map_map]
  rfl
theorem okS_mem {ss : PL} (h : OkS ss) {k v : Int} (e : lkI ss k = some v) : -60 ≤ k ∧ k ≤ 60 ∧ 2 ≤ v ∧ v ≤ 9 := h.2.2 (k, v) ((lk_mem h.1).mp e)
theorem sizes_ok {N : Nat} {st : D} {most : Int} (hs : IsSt N st) (hN : N < 2 ^ 39) (h0 : 0 ≤ most) (h1 : most ≤ 6) :
    ∃ ss st', IsSt (N + 30) st' ∧ OkS ss ∧ Asc ss ∧ (ss.length : Int) ≤ most ∧ f__law_sizes [st, .int most] = .ok (.dct true (kI ss) (vI ss)) [st', .int most] := by
  obtain ⟨f1, f2, f3⟩ := hs.fz
  obtain ⟨k0, s0, g0, k0a, k0b, e0⟩ := take_ok (size := most + 1) hs (by omega) (by omega) (by omega)
  obtain ⟨f01, f02, f03⟩ := g0.fz
  obtain ⟨e, he, st', m, t, hst, hn, hl, hb, rfl⟩ := rng_ok (tg := tgName 3) (body := b__law_sizes_2_b) (fun k env => ∃ st m t, IsSt (N + 1 + 4 * k) st ∧ Nk m ∧ m.length ≤ k ∧ (∀ p ∈ m, -60 ≤ p.1 ∧ p.1 ≤ 60 ∧ 2 ≤ p.2 ∧ p.2 ≤ 9) ∧ env = [st, .int most, .dct true (kI m) (vI m), t, .un]) k0.toNat 0 [s0, .int most, .dct true [] [], .un, .un]
    ⟨s0, [], .un, g0, Nk.nil, Nat.le_refl _, fun p hp => absurd hp List.not_mem_nil, rfl⟩ (by
      rintro k e hk ⟨st, m, t, hst, hn, hl, hb, rfl⟩
      obtain ⟨f1, f2, f3⟩ := hst.fz
      obtain ⟨a1, s1, g1, a1a, a1b, e1⟩ := take_ok (size := 8) hst (by omega) (by omega) (by omega)
      obtain ⟨f11, f12, f13⟩ := g1.fz
      obtain ⟨a2, s2, g2, a2a, a2b, e2⟩ := take_ok (size := 12) g1 (by omega) (by omega) (by omega)
      obtain ⟨f21, f22, f23⟩ := g2.fz
      obtain ⟨a3, s3, g3, a3a, a3b, e3⟩ := take_ok (size := 12) g2 (by omega) (by omega) (by omega)
      obtain ⟨f31, f32, f33⟩ := g3.fz
      obtain ⟨x, s4, g4, mx, _, e4⟩ := pick_ok (o := true) (xs := [.int (a2 - 3), .int (a3 - 3), .int 60, .int (-60)]) g3 (by omega) (by simp) (by simp) (by simp)
      obtain ⟨f41, f42, f43⟩ := g4.fz
      obtain ⟨y, rfl, ya, yb⟩ : ∃ y, x = .int y ∧ -60 ≤ y ∧ y ≤ 60 := by
        simp at mx
        rcases mx with h | h | h | h
        all_goals exact ⟨_, h, by omega, by omega⟩
      have pt := putD_I (m := m) (k := y) (v := 2 + a1) hn (by rw [sizeLine_eq]; omega)
      refine ⟨[st, .int most, .dct true (kI m) (vI m), .int (0 + (k : Int)), .un], [s4, .int most, .dct true (kI (putI m (y, 2 + a1))) (vI (putI m (y, 2 + a1))), .int (0 + (k : Int)), .un], rfl, ?_, s4, putI m (y, 2 + a1), .int (0 + (k : Int)), g4.mono (by omega), Nk_put hn, by have := len_put (p := (y, 2 + a1)) hn; omega, fun p hp => ?_, rfl⟩
      · unfold b__law_sizes_2_b b__law_sizes_2_1
        simp [e1, e2, e3, e4, f1, f2, f3, f11, f12, f13, f21, f22, f23, f31, f32, f33, f41, f42, f43, pt, sizeLine_eq]
      · rcases mem_put hn hp with h | h
        · rw [h]
          refine ⟨ya, yb, ?_, ?_⟩
          · show 2 ≤ 2 + a1; omega
          · show 2 + a1 ≤ 9; omega
        · exact hb p h)
  obtain ⟨f1', f2', f3'⟩ := hst.fz
  have hl6 : m.length ≤ 6 := by omega
  have hlt : m.length < sizeLine := by rw [sizeLine_eq]; omega
  have srt := sortA_d (m := m) (o := true) (by omega)
  have cm : c__law_sizes_1 [st', .int most, .dct true (kI m) (vI m), t, .un] = .ok (.lst true (pI (canI m))) [st', .int most, .dct true (kI m) (vI m), t, .un] := by
    unfold c__law_sizes_1
    refine dLc_ok (ks := [.lst false (((keysI m).mergeSort (· ≤ ·)).map .int)]) (xs := ((keysI m).mergeSort (· ≤ ·)).map .int) (env1 := [st', .int most, .dct true (kI m) (vI m), t, .un]) (by simp [srt]) rfl
      (bld_comp hn hlt fun k v hk => ⟨[st', .int most, .dct true (kI m) (vI m), t, .int k], [st', .int most, .dct true (kI m) (vI m), t, .int k], rfl, ?_, rfl⟩) rfl
    have g := fGet_I (o := true) hk
    simp [g, sizeLine_eq]
  have da := dictA_l (o := true) (Nk_can hn)
  refine ⟨canI m, st', hst.mono (by omega), can_okS ⟨hn, hl6, hb⟩, can_asc hn, by rw [(can_perm m).length_eq]; omega, ?_⟩
  have r1 : -4611686018427387904 ≤ k0 ∧ k0 < 4611686018427387904 := by omega
  unfold f__law_sizes b__law_sizes b__law_sizes_1 b__law_sizes_2 b__law_sizes_3
  simp [f1, f2, f3, e0, f01, f02, f03, r1, he, cm, da]
/-! ### items -/
/-- what stands while boxes are drawn -/
structure BI (ss : PL) (most : Int) (m : PL) (spare : Int) : Prop where
  nk : Nk m
  cap : ∀ p ∈ m, (1 ≤ p.2 ∧ p.2 ≤ (lkI ss p.1).getD 1) ∧ -(10 ^ 30) ≤ p.1 ∧ p.1 ≤ 10 ^ 30
  tot : totI m + spare = most
  sp : 0 ≤ spare
theorem BI.len {ss m : PL} {most spare : Int} (h : BI ss most m spare) : (m.length : Int) ≤ most := by
  have := tot_len fun p hp => (h.cap p hp).1.1
  have := h.tot
  have := h.sp
  omega
theorem BI.put {ss m : PL} {most spare k a : Int} (h : BI ss most m spare) (hk : k ∉ keysI m) (a1 : 1 ≤ a) (a2 : a ≤ (lkI ss k).getD 1) (a3 : a ≤ spare) (k1 : -(10 ^ 30) ≤ k) (k2 : k ≤ 10 ^ 30) : BI ss most (putI m (k, a)) (spare - a) := by
  refine ⟨Nk_put h.nk, fun p hp => ?_, ?_, by omega⟩
  · rcases mem_put h.nk hp with e | e
    · rw [e]; exact ⟨⟨a1, a2⟩, k1, k2⟩
    · exact h.cap p e
  · rw [tot_put h.nk, show (k, a).1 = k from rfl, lkI_none.mpr hk]
    have := h.tot
    show totI m - 0 + a + (spare - a) = most
    omega
theorem cap_pos {ss : PL} (h : OkS ss) (k : Int) : 1 ≤ (lkI ss k).getD 1 ∧ (lkI ss k).getD 1 ≤ 9 := by
  cases e : lkI ss k with
  | none => exact ⟨by show (1 : Int) ≤ 1; omega, by show (1 : Int) ≤ 9; omega⟩
  | some v =>
    have := okS_mem h e
    exact ⟨by show 1 ≤ v; omega, by show v ≤ 9; omega⟩
theorem inner_ok {N : Nat} {ss m : PL} {o : Bool} {st turn : D} {most place spare : Int} {y8 : D} (hs : IsSt N st) (hN : N < 2 ^ 39) (hS : OkS ss) (hm : most ≤ 40) (b : BI ss most m spare) (p1 : -(10 ^ 30) ≤ place) (p2 : place ≤ 10 ^ 30 - 1) (hk : ∀ k ∈ keysI m, k < place) :
    ∃ st' m' spare' a, IsSt (N + 1) st' ∧ BI ss most m' spare' ∧ (∀ k ∈ keysI m', k < place + 1) ∧ ∀ t,
      b__law_boxes_2_1_b [st, .dct o (kI ss) (vI ss), .int most, .int place, .dct true (kI m) (vI m), .int spare, turn, t, y8] = .nx [st', .dct o (kI ss) (vI ss), .int most, .int (place + 1), .dct true (kI m') (vI m'), .int spare', turn, t, .int a] := by
  obtain ⟨f1, f2, f3⟩ := hs.fz
  obtain ⟨c1, c2⟩ := cap_pos hS place
  obtain ⟨k0, s0, g0, k0a, k0b, e0⟩ := take_ok (size := (lkI ss place).getD 1) hs (by omega) (by omega) (by omega)
  obtain ⟨f01, f02, f03⟩ := g0.fz
  have np : place ∉ keysI m := fun z => by have := hk _ z; omega
  have g3 := get3_I (m := ss) (o := o) (k := place) (z := 1)
  have pt := fun v => putD_I (m := m) (k := place) (v := v) b.nk (by rw [sizeLine_eq]; have := b.len; omega)
  have dk := isDk_dct (o := o) (ks := kI ss) (xs := vI ss)
  by_cases hp : 0 < spare
  · -- something is put there
    have ha : ∃ a, (if 1 + k0 < spare then 1 + k0 else spare) = a ∧ 1 ≤ a ∧ a ≤ (lkI ss place).getD 1 ∧ a ≤ spare := by
      refine ⟨_, rfl, ?_, ?_, ?_⟩
      all_goals split <;> omega
    obtain ⟨a, ea, a1, a2, a3⟩ := ha
    refine ⟨s0, putI m (place, a), spare - a, a, g0, b.put np a1 a2 a3 p1 (by omega), fun k hk2 => ?_, fun t => ?_⟩
    · rcases (mem_keys_put b.nk).mp hk2 with e | e
      · rw [e]; show place < place + 1; omega
      · have := hk k e; omega
    · have a0 : 0 < a := by omega
      unfold b__law_boxes_2_1_b b__law_boxes_2_1_1 b__law_boxes_2_1_2 b__law_boxes_2_1_3
      cases o <;> simp [dk, g3, e0, f1, f2, f3, f01, f02, f03, ea, a0, pt]
  · have e2 : spare = 0 := by have := b.sp; omega
    subst e2
    refine ⟨s0, m, 0, 0, g0, b, fun k hk2 => by have := hk k hk2; omega, fun t => ?_⟩
    have ea : ¬ (1 + k0 < 0) := by omega
    unfold b__law_boxes_2_1_b b__law_boxes_2_1_1 b__law_boxes_2_1_2 b__law_boxes_2_1_3
    cases o <;> simp [dk, g3, e0, f1, f2, f3, f01, f02, f03, ea]
/-- one run of boxes and the gap behind it -/
theorem outer_ok {N j : Nat} {ss m : PL} {o : Bool} {st : D} {most place spare : Int} {t7 y8 turn : D} (hs : IsSt N st) (hN : N < 2 ^ 38 + 1000) (hS : OkS ss) (hm : most ≤ 40) (b : BI ss most m spare) (p1 : -(10 ^ 30) ≤ place) (p2 : place ≤ 10 ^ 29 + (j : Int) * (10 ^ 28 + 10)) (hj : j < 6) (hk : ∀ k ∈ keysI m, k < place) :
    ∃ (st' : D) (m' : PL) (spare' place' : Int) (t' a : D), IsSt (N + 6) st' ∧ BI ss most m' spare' ∧ -(10 ^ 30) ≤ place' ∧ place' ≤ 10 ^ 29 + ((j + 1 : Nat) : Int) * (10 ^ 28 + 10) ∧ (∀ k ∈ keysI m', k < place') ∧
      b__law_boxes_2_b [st, .dct o (kI ss) (vI ss), .int most, .int place, .dct true (kI m) (vI m), .int spare, turn, t7, y8] = .nx [st', .dct o (kI ss) (vI ss), .int most, .int place', .dct true (kI m') (vI m'), .int spare', turn, t', a] := by
  obtain ⟨f1, f2, f3⟩ := hs.fz
  obtain ⟨k0, s0, g0, k0a, k0b, e0⟩ := take_ok (size := 4) hs (by omega) (by omega) (by omega)
  obtain ⟨f01, f02, f03⟩ := g0.fz
  obtain ⟨e, he, st1, m1, sp1, t1, a1, hst, b1, hk1, rfl⟩ := rng_ok (tg := tgName 7) (body := b__law_boxes_2_1_b) (fun i env => ∃ st' m' spare' t a, IsSt (N + 1 + i) st' ∧ BI ss most m' spare' ∧ (∀ k ∈ keysI m', k < place + i) ∧ env = [st', .dct o (kI ss) (vI ss), .int most, .int (place + i), .dct true (kI m') (vI m'), .int spare', turn, t, a]) (1 + k0).toNat 0
    [s0, .dct o (kI ss) (vI ss), .int most, .int place, .dct true (kI m) (vI m), .int spare, turn, t7, y8] ⟨s0, m, spare, t7, y8, g0, b, fun k hk2 => by have := hk k hk2; omega, by simp⟩ (by
      rintro i e hi ⟨st', m', spare', t, a, hst, b', hk', rfl⟩
      obtain ⟨s2, m2, sp2, a2, g2, b2, hk2, e2⟩ := inner_ok (N := N + 1 + i) (ss := ss) (m := m') (o := o) (turn := turn) (most := most) (place := place + i) (spare := spare') (y8 := a) hst (by omega) hS hm b' (by omega) (by omega) hk'
      refine ⟨[st', .dct o (kI ss) (vI ss), .int most, .int (place + i), .dct true (kI m') (vI m'), .int spare', turn, .int (0 + (i : Int)), a], [s2, .dct o (kI ss) (vI ss), .int most, .int (place + i + 1), .dct true (kI m2) (vI m2), .int sp2, turn, .int (0 + (i : Int)), .int a2], rfl, e2 _, s2, m2, sp2, .int (0 + (i : Int)), .int a2, g2.mono (by omega), b2, fun k hk3 => ?_, ?_⟩
      · have := hk2 k hk3; push_cast; omega
      · have : place + (i : Int) + 1 = place + ((i + 1 : Nat) : Int) := by push_cast; omega
        rw [this])
  obtain ⟨f11, f12, f13⟩ := hst.fz
  obtain ⟨x, s4, g4, mx, _, e4⟩ := pick_ok (o := true) (xs := [.int 1, .int 1, .int 1, .int 2, .int 3, .int 8, .int 10000000000000000000000000000]) hst (by omega) (by simp) (by simp) (by simp)
  obtain ⟨f41, f42, f43⟩ := g4.fz
  obtain ⟨y, rfl, ya, yb⟩ : ∃ y, x = .int y ∧ 1 ≤ y ∧ y ≤ 10 ^ 28 := by
    simp at mx
    rcases mx with h | h | h | h | h
    all_goals exact ⟨_, h, by omega, by omega⟩
  have r1 : -4611686018427387904 ≤ 1 + k0 ∧ 1 + k0 < 4611686018427387904 := by omega
  have e5 : ((1 + k0).toNat : Int) = 1 + k0 := by omega
  refine ⟨s4, m1, sp1, place + ((1 + k0).toNat : Int) + y, t1, a1, g4.mono (by omega), b1, by omega, by push_cast at *; omega, fun k hk2 => by have := hk1 k hk2; omega, ?_⟩
  unfold b__law_boxes_2_b b__law_boxes_2_1 b__law_boxes_2_2
  have e6 : max (1 + k0) 0 = 1 + k0 := by omega
  simp [f1, f2, f3, e0, f01, f02, f03, r1, he, f11, f12, f13, e4, f41, f42, f43, cPow, sizeLine_eq, e6]
/-- a wide box, with something in it perhaps -/
theorem third_ok {N : Nat} {ss m : PL} {st : D} {most k v spare : Int} {y3 y6 y7 y8 : D} (hs : IsSt N st) (hN : N < 2 ^ 39) (hS : OkS ss) (hm : most ≤ 40) (b : BI ss most m spare) (hk : lkI ss k = some v) :
    ∃ st' m' spare' a, IsSt (N + 1) st' ∧ BI ss most m' spare' ∧
      b__law_boxes_3_b [st, .dct false (kI ss) (vI ss), .int most, .int k, .dct true (kI m) (vI m), .int spare, y6, y7, y8] = .nx [st', .dct false (kI ss) (vI ss), .int most, .int k, .dct true (kI m') (vI m'), .int spare', y6, y7, .int a] := by
  obtain ⟨f1, f2, f3⟩ := hs.fz
  obtain ⟨q1, q2, q3, q4⟩ := okS_mem hS hk
  obtain ⟨k0, s0, g0, k0a, k0b, e0⟩ := take_ok (size := v + 1) hs (by omega) (by omega) (by omega)
  obtain ⟨f01, f02, f03⟩ := g0.fz
  have gk := fGet_I (o := false) hk
  have nin := fNotIn_I (m := m) (o := true) (k := k)
  have pt := fun v => putD_I (m := m) (k := k) (v := v) b.nk (by rw [sizeLine_eq]; have := b.len; omega)
  obtain ⟨a, ea⟩ : ∃ a, (if k0 < spare then k0 else spare) = a := ⟨_, rfl⟩
  have aa : a ≤ k0 ∧ a ≤ spare ∧ 0 ≤ a := by have := b.sp; rw [← ea]; split <;> omega
  by_cases hp : lkI m k = none ∧ 0 < a
  · have a0 := hp.2
    refine ⟨s0, putI m (k, a), spare - a, a, g0, b.put (lkI_none.mp hp.1) (by omega) (by rw [hk]; show a ≤ v; omega) aa.2.1 (by omega) (by omega), ?_⟩
    rw [hp.1] at nin
    unfold b__law_boxes_3_b b__law_boxes_3_1 b__law_boxes_3_2
    simp [gk, e0, f1, f2, f3, f01, f02, f03, ea, nin, a0, pt, tgSubD, sizeLine_eq]
  · refine ⟨s0, m, spare, a, g0, b, ?_⟩
    unfold b__law_boxes_3_b b__law_boxes_3_1 b__law_boxes_3_2
    by_cases h1 : lkI m k = none
    · have a0 : ¬ (0 < a) := fun z => hp ⟨h1, z⟩
      rw [h1] at nin
      simp [gk, e0, f1, f2, f3, f01, f02, f03, ea, nin, a0]
    · have h2 : (lkI m k).isNone = false := by cases e : lkI m k with
        | none => exact absurd e h1
        | some _ => rfl
      rw [h2] at nin
      simp [gk, e0, f1, f2, f3, f01, f02, f03, ea, nin]
theorem boxes_ok {N : Nat} {ss : PL} {o : Bool} {st : D} {most : Int} (hs : IsSt N st) (hN : N < 2 ^ 38) (hS : OkS ss) (h0 : 0 ≤ most) (hm : most ≤ 40) :
    ∃ cs st', IsSt (N + 60) st' ∧ OkC cs ss ∧ Asc cs ∧ totI cs ≤ most ∧ (∀ p ∈ cs, -(10 ^ 30) ≤ p.1 ∧ p.1 ≤ 10 ^ 30) ∧ f__law_boxes [st, .dct o (kI ss) (vI ss), .int most] = .ok (.dct true (kI cs) (vI cs)) [st', .dct false (kI ss) (vI ss), .int most] := by
  obtain ⟨f1, f2, f3⟩ := hs.fz
  obtain ⟨x, s1, g1, mx, _, e1⟩ := pick_ok (o := true) (xs := [.int 0, .int 0, .int (-2), .int (-9), .int 30, .int 100000000000000000000000000000, .int (-100000000000000000000000000000)]) hs (by omega) (by simp) (by simp) (by simp)
  obtain ⟨f11, f12, f13⟩ := g1.fz
  obtain ⟨p0, rfl, ya, yb⟩ : ∃ y, x = .int y ∧ -(10 ^ 29) ≤ y ∧ y ≤ 10 ^ 29 := by
    simp at mx
    rcases mx with h | h | h | h | h | h
    all_goals exact ⟨_, h, by omega, by omega⟩
  obtain ⟨k2, s2, g2, k2a, k2b, e2⟩ := take_ok (size := 6) g1 (by omega) (by omega) (by omega)
  obtain ⟨f21, f22, f23⟩ := g2.fz
  have b0 : BI ss most [] most := ⟨Nk.nil, fun p hp => absurd hp List.not_mem_nil, by unfold totI; simp, h0⟩
  obtain ⟨e, he, st3, m3, sp3, pl3, t3, u3, a3, g3, b3, _, _, _, rfl⟩ := rng_ok (tg := tgName 6) (body := b__law_boxes_2_b) (fun j env => ∃ (st' : D) (m' : PL) (spare' place' : Int) (t u a : D), IsSt (N + 2 + 6 * j) st' ∧ BI ss most m' spare' ∧ -(10 ^ 30) ≤ place' ∧ place' ≤ 10 ^ 29 + (j : Int) * (10 ^ 28 + 10) ∧ (∀ k ∈ keysI m', k < place') ∧
      env = [st', .dct o (kI ss) (vI ss), .int most, .int place', .dct true (kI m') (vI m'), .int spare', t, u, a]) k2.toNat 0
    [s2, .dct o (kI ss) (vI ss), .int most, .int p0, .dct true [] [], .int most, .un, .un, .un] ⟨s2, [], most, p0, .un, .un, .un, g2, b0, by omega, by push_cast; omega, fun k hk => absurd hk List.not_mem_nil, rfl⟩ (by
      rintro j e hj ⟨st', m', spare', place', t, u, a, hst, b', p1, p2, hk', rfl⟩
      obtain ⟨st2, m2, sp2, pl2, u2, a2, g, b2, q1, q2, hk2, e2⟩ := outer_ok (N := N + 2 + 6 * j) (j := j) (ss := ss) (m := m') (o := o) (most := most) (place := place') (spare := spare') (t7 := u) (y8 := a) (turn := .int (0 + (j : Int))) hst (by omega) hS hm b' p1 p2 (by omega) hk'
      exact ⟨[st', .dct o (kI ss) (vI ss), .int most, .int place', .dct true (kI m') (vI m'), .int spare', .int (0 + (j : Int)), u, a], [st2, .dct o (kI ss) (vI ss), .int most, .int pl2, .dct true (kI m2) (vI m2), .int sp2, .int (0 + (j : Int)), u2, a2], rfl, e2, st2, m2, sp2, pl2, .int (0 + (j : Int)), u2, a2, g.mono (by omega), b2, q1, q2, hk2, rfl⟩)
  obtain ⟨f31, f32, f33⟩ := g3.fz
  obtain ⟨e4, he4, st4, m4, sp4, y34, a4, g4, b4, rfl⟩ := forD_ok (tg := tgName 3) (body := b__law_boxes_3_b) (fun j env => ∃ st' m' spare' y3 a, IsSt (N + 2 + 6 * k2.toNat + j) st' ∧ BI ss most m' spare' ∧ env = [st', .dct false (kI ss) (vI ss), .int most, y3, .dct true (kI m') (vI m'), .int spare', t3, u3, a]) ((keysI ss).map .int) 0
    [st3, .dct false (kI ss) (vI ss), .int most, .int pl3, .dct true (kI m3) (vI m3), .int sp3, t3, u3, a3] ⟨st3, m3, sp3, .int pl3, a3, g3, b3, rfl⟩ (by
      rintro j x e hx _ hj ⟨st', m', spare', y3, a, hst, b', rfl⟩
      obtain ⟨k, hk, rfl⟩ := List.mem_map.mp hx
      obtain ⟨v, hv⟩ := mem_keys.mp hk
      rw [List.length_map] at hj
      have hj2 : (keysI ss).length ≤ 6 := by unfold keysI; rw [List.length_map]; exact hS.2.1
      obtain ⟨st2, m2, sp2, a2, g, b2, e2⟩ := third_ok (N := N + 2 + 6 * k2.toNat + j) (ss := ss) (m := m') (most := most) (k := k) (v := v) (spare := spare') (y3 := y3) (y6 := t3) (y7 := u3) (y8 := a) hst (by omega) hS hm b' ((lk_mem hS.1).mpr hv)
      exact ⟨[st', .dct false (kI ss) (vI ss), .int most, .int k, .dct true (kI m') (vI m'), .int spare', t3, u3, a], [st2, .dct false (kI ss) (vI ss), .int most, .int k, .dct true (kI m2) (vI m2), .int sp2, t3, u3, .int a2], rfl, .inl e2, st2, m2, sp2, .int k, .int a2, g.mono (by omega), b2, rfl⟩)
  obtain ⟨f41, f42, f43⟩ := g4.fz
  have hl4 : m4.length ≤ 40 := by have := b4.len; omega
  have hlt : m4.length < sizeLine := by rw [sizeLine_eq]; omega
  have srt := sortA_d (m := m4) (o := true) (by omega)
  have hl6 : (keysI ss).length ≤ 6 := by unfold keysI; rw [List.length_map]; exact hS.2.1
  have cm : c__law_boxes_1 [st4, .dct false (kI ss) (vI ss), .int most, y34, .dct true (kI m4) (vI m4), .int sp4, t3, u3, a4] = .ok (.lst true (pI (canI m4))) [st4, .dct false (kI ss) (vI ss), .int most, .un, .dct true (kI m4) (vI m4), .int sp4, t3, u3, a4] := by
    unfold c__law_boxes_1
    refine dLc_ok (ks := [.lst false (((keysI m4).mergeSort (· ≤ ·)).map .int)]) (xs := ((keysI m4).mergeSort (· ≤ ·)).map .int) (env1 := [st4, .dct false (kI ss) (vI ss), .int most, y34, .dct true (kI m4) (vI m4), .int sp4, t3, u3, a4]) (by simp [srt]) rfl
      (bld_comp b4.nk hlt fun k v hk => ⟨[st4, .dct false (kI ss) (vI ss), .int most, .int k, .dct true (kI m4) (vI m4), .int sp4, t3, u3, a4], [st4, .dct false (kI ss) (vI ss), .int most, .int k, .dct true (kI m4) (vI m4), .int sp4, t3, u3, a4], rfl, ?_, rfl⟩) rfl
    have g := fGet_I (o := true) hk
    simp [g, sizeLine_eq]
  have da := dictA_l (o := true) (Nk_can b4.nk)
  have t4 := b4.tot
  have s4 := b4.sp
  refine ⟨canI m4, st4, g4.mono (by rw [List.length_map]; omega), ⟨Nk_can b4.nk, fun p hp => (b4.cap p (mem_can.mp hp)).1, by rw [tot_can]; omega⟩, can_asc b4.nk, by rw [tot_can]; omega, fun p hp => (b4.cap p (mem_can.mp hp)).2, ?_⟩
  have r1 : -4611686018427387904 ≤ k2 ∧ k2 < 4611686018427387904 := by omega
  have kk := keys_I (m := ss)
  unfold f__law_boxes b__law_boxes b__law_boxes_1 b__law_boxes_2 b__law_boxes_3 b__law_boxes_4
  cases o <;> simp [f1, f2, f3, e1, f11, f12, f13, e2, f21, f22, f23, f31, f32, f33, f41, f42, f43, r1, he, kk, he4, cm, da, cPow, sizeLine_eq]
end DL
set_option Elab.async false
set_option linter.all false
set_option maxRecDepth 100000
set_option maxHeartbeats 400000
/-! DRh: the laws' own look at rows, their own walk. -/
namespace DL
open PySem L2
theorem made_ok {cs ss : PL} {o o2 : Bool} (h : OkR cs ss) : f__law_made [.dct o (kI cs) (vI cs), .dct o2 (kI ss) (vI ss)] = .ok (rowD cs ss) [.dct o (kI cs) (vI cs), .dct o2 (kI ss) (vI ss)] := by
  have ini := init_ok (.lst true) (.lst true) h.s h.c
  rw [can_of_asc h.ca, can_of_asc h.sa] at ini
  unfold f__law_made b__law_made
  cases o <;> cases o2 <;> simp [items_I, ini, rowD]
/-- numbers that repr can show -/
def Sml (m : PL) : Prop := ∀ p ∈ m, p.1.natAbs < 2 ^ 1000 ∧ p.2.natAbs < 2 ^ 1000
theorem repr_pI {m : PL} (h : Sml m) (hl : m.length ≤ 1000) : ∃ t, fRepr [.tup (pI m)] = some (.str t) := by
  obtain ⟨h1, h2, h3⟩ := okR_pI h
  refine repr_ok ?_ ?_ ?_
  · unfold okR; exact h1
  · unfold dep; omega
  · unfold blk; omega
/-- what a row tells is what stands in the dicts -/
theorem is_ok {cs ss b z : PL} {o o2 : Bool} (h1 : Nk b) (h2 : canI b = cs) (h3 : Nk z) (h4 : canI z = ss) (l1 : b.length < 64) (l2 : z.length < 64) (s1 : Sml cs) (s2 : Sml ss) :
    f__law_is [rowD cs ss, .dct o (kI b) (vI b), .dct o2 (kI z) (vI z)] = .ok (.bl true) [rowD cs ss, .dct o (kI b) (vI b), .dct o2 (kI z) (vI z)] := by
  have lb : b.length < sizeLine := by rw [sizeLine_eq]; omega
  have lz : z.length < sizeLine := by rw [sizeLine_eq]; omega
  have c1 : c__law_is_1 [rowD cs ss, .dct o (kI b) (vI b), .dct o2 (kI z) (vI z), .un] = .ok (.lst true (pI cs)) [rowD cs ss, .dct o (kI b) (vI b), .dct o2 (kI z) (vI z), .un] := by
    unfold c__law_is_1
    have srt := sortA_d (m := b) (o := o) l1
    rw [← h2]
    refine dLc_ok (ks := [.lst false (((keysI b).mergeSort (· ≤ ·)).map .int)]) (xs := ((keysI b).mergeSort (· ≤ ·)).map .int) (env1 := [rowD (canI b) ss, .dct o (kI b) (vI b), .dct o2 (kI z) (vI z), .un]) (by cases o <;> simp [srt]) rfl
      (bld_comp h1 lb fun k v hk => ⟨[rowD (canI b) ss, .dct o (kI b) (vI b), .dct o2 (kI z) (vI z), .int k], [rowD (canI b) ss, .dct o (kI b) (vI b), .dct o2 (kI z) (vI z), .int k], rfl, ?_, rfl⟩) rfl
    have g := fGet_I (o := o) hk
    cases o <;> simp [g, sizeLine_eq]
  have c2 : c__law_is_2 [rowD cs ss, .dct o (kI b) (vI b), .dct o2 (kI z) (vI z), .un] = .ok (.lst true (pI ss)) [rowD cs ss, .dct o (kI b) (vI b), .dct o2 (kI z) (vI z), .un] := by
    unfold c__law_is_2
    have srt := sortA_d (m := z) (o := o2) l2
    rw [← h4]
    refine dLc_ok (ks := [.lst false (((keysI z).mergeSort (· ≤ ·)).map .int)]) (xs := ((keysI z).mergeSort (· ≤ ·)).map .int) (env1 := [rowD cs (canI z), .dct o (kI b) (vI b), .dct o2 (kI z) (vI z), .un]) (by cases o2 <;> simp [srt]) rfl
      (bld_comp h3 lz fun k v hk => ⟨[rowD cs (canI z), .dct o (kI b) (vI b), .dct o2 (kI z) (vI z), .int k], [rowD cs (canI z), .dct o (kI b) (vI b), .dct o2 (kI z) (vI z), .int k], rfl, ?_, rfl⟩) rfl
    have g := fGet_I (o := o2) hk
    cases o2 <;> simp [g, sizeLine_eq]
  obtain ⟨t1, e1⟩ := repr_pI s1 (by rw [← h2, (can_perm b).length_eq]; omega)
  obtain ⟨t2, e2⟩ := repr_pI s2 (by rw [← h4, (can_perm z).length_eq]; omega)
  unfold f__law_is b__law_is
  simp [ob_prop, contents_ok, capacities_ok, c1, c2, fTuple_pI, e1, e2]
theorem lpassed_ok {c b z a : Int} : f__law_passed [.int c, .int b, .int z, .int a] = .ok (.tup [.int (pN c b z a), .int (pL c b z a)]) [.int c, .int b, .int z, .int a] := by
  unfold f__law_passed b__law_passed pN pL upP dnP
  simp [sizeLine_eq]
/-! ### the laws' walk -/
theorem lturn_ok {cs ss : PL} {o p q : Bool} {c l x : Int} {left : List Int} {W : List W5} {z7 z8 z9 : D} (hW : W.length < 1000) (hne : ¬ (l = 0 ∧ left = [])) :
    ∃ q', b__law_walk_2_b [.dct o (kI cs) (vI cs), .dct p (kI ss) (vI ss), .int c, .lst q (left.map .int), .int l, .int x, .lst true (wsD 1 W), z7, z8, z9] =
      .nx [.dct o (kI cs) (vI cs), .dct p (kI ss) (vI ss), .int c, .lst q' ((nxLeft left (nxAt left l x)).map .int), .int (pL c l (Hc ss 1 (nxAt left l x)) (Gc cs 1 (nxAt left l x))), .int (nxAt left l x + 1),
        .lst true (wsD 1 (W ++ [stp (Gc cs 1) (Hc ss 1) c l (nxAt left l x)])), .int (Gc cs 1 (nxAt left l x)), .int (pN c l (Hc ss 1 (nxAt left l x)) (Gc cs 1 (nxAt left l x))), .int (pL c l (Hc ss 1 (nxAt left l x)) (Gc cs 1 (nxAt left l x)))] := by
  have s1 : b__law_walk_2_1 [.dct o (kI cs) (vI cs), .dct p (kI ss) (vI ss), .int c, .lst q (left.map .int), .int l, .int x, .lst true (wsD 1 W), z7, z8, z9] =
      .nx [.dct o (kI cs) (vI cs), .dct p (kI ss) (vI ss), .int c, .lst q (left.map .int), .int l, .int (nxAt left l x), .lst true (wsD 1 W), z7, z8, z9] := by
    unfold b__law_walk_2_1 nxAt
    by_cases h0 : l = 0
    · cases left with
      | nil => exact absurd ⟨h0, rfl⟩ hne
      | cons n ns =>
        have e := ix0 (o := q) (n := n) (ns := ns)
        rw [List.map_cons] at e ⊢
        cases q <;> simp [h0, e]
    · simp [h0]
  generalize hy : nxAt left l x = y at *
  obtain ⟨q', s2⟩ : ∃ q', b__law_walk_2_2 [.dct o (kI cs) (vI cs), .dct p (kI ss) (vI ss), .int c, .lst q (left.map .int), .int l, .int y, .lst true (wsD 1 W), z7, z8, z9] =
      .nx [.dct o (kI cs) (vI cs), .dct p (kI ss) (vI ss), .int c, .lst q' ((nxLeft left y).map .int), .int l, .int y, .lst true (wsD 1 W), z7, z8, z9] := by
    have e1 := slU1 (o := q) (ns := left)
    have e2 := slL1 (o := q) (ns := left)
    have e3 := eq_ints (o := true) (o' := true) (ns := left.take 1) (ms := [y])
    rw [List.map_cons, List.map_nil] at e3
    have fr := frozL_int left
    have fz0 := fzL_int left
    generalize hL : left.map D.int = L at *
    by_cases h : left.take 1 = [y]
    · have hl : nxLeft left y = left.tail := by
        unfold nxLeft
        rw [if_pos]
        cases left with
        | nil => cases h
        | cons n ns => simpa using h
      rw [decide_eq_true h] at e3
      refine ⟨true, ?_⟩
      rw [hl]
      clear hl h
      generalize (left.take 1).map D.int = T1 at *
      generalize left.tail.map D.int = T2 at *
      unfold b__law_walk_2_2
      cases q <;> simp [e1, e2, e3, sizeLine_eq, fr]
    · have hl : nxLeft left y = left := by
        unfold nxLeft
        rw [if_neg]
        cases left with
        | nil => simp
        | cons n ns => simpa using h
      rw [decide_eq_false h] at e3
      refine ⟨false, ?_⟩
      rw [hl, hL]
      clear hl h
      generalize (left.take 1).map D.int = T1 at *
      generalize left.tail.map D.int = T2 at *
      unfold b__law_walk_2_2
      cases q <;> simp [e1, e2, e3, sizeLine_eq, fr, fz0]
  have g1 := get3_I (m := cs) (o := o) (k := y) (z := 0)
  have g2 := get3_I (m := ss) (o := p) (k := y) (z := 1)
  have G1 : (lkI cs y).getD 0 = Gc cs 1 y := by unfold Gc; rw [Int.one_mul]
  have H1 : (lkI ss y).getD 1 = Hc ss 1 y := by unfold Hc; rw [Int.one_mul]
  rw [G1] at g1
  rw [H1] at g2
  have d1 := isDk_dct (o := o) (ks := kI cs) (xs := vI cs)
  have d2 := isDk_dct (o := p) (ks := kI ss) (xs := vI ss)
  have hp := lpassed_ok (c := c) (b := l) (z := Hc ss 1 y) (a := Gc cs 1 y)
  have hl : W.length < 16777216 := by omega
  have e5 := wsD_snoc (s := 1) (W := W) (w := stp (Gc cs 1) (Hc ss 1) c l y)
  unfold wD stp at e5
  simp only [Int.one_mul] at e5
  refine ⟨q', ?_⟩
  unfold b__law_walk_2_b
  unfold b__law_walk_2_3 b__law_walk_2_4 b__law_walk_2_5 b__law_walk_2_6
  cases o <;> cases p <;> simp [s1, s2, d1, d2, g1, g2, hp, isL, mAppend, hl, e5, sizeLine_eq, stp]
theorem lcond_ok {cs ss : PL} {o p q : Bool} {c l : Int} {left : List Int} {W : List W5} {z5 z7 z8 z9 : D} (h0 : 0 ≤ l) :
    (dOr (dTest (dOp fGt (dVar 4) (dC (.int 0)))) (dTest (dOp fNeA (dVar 3) (dLst (dNil))))) [.dct o (kI cs) (vI cs), .dct p (kI ss) (vI ss), .int c, .lst q (left.map .int), .int l, z5, .lst true (wsD 1 W), z7, z8, z9] =
      .ok (!decide (l = 0 ∧ left = [])) [.dct o (kI cs) (vI cs), .dct p (kI ss) (vI ss), .int c, .lst q (left.map .int), .int l, z5, .lst true (wsD 1 W), z7, z8, z9] := by
  have e := ne_nil (o := q) (o' := true) (ns := left)
  by_cases h : 0 < l
  · have : ¬ l = 0 := by omega
    simp [h, this]
  · have : l = 0 := by omega
    cases q <;> simp [e, this]
theorem lwalk_go {cs ss : PL} {o p : Bool} {c : Int} : ∀ {n : Nat} {left : List Int} {l x b : Int} {W : List W5} {q : Bool} {z7 z8 z9 : D}, WI (Gc cs 1) (Hc ss 1) c left l x b → meas (Gc cs 1) left l ≤ n → W.length + n < 1000 →
    ∃ q' y5 y7 y8 y9, b__law_walk_2 [.dct o (kI cs) (vI cs), .dct p (kI ss) (vI ss), .int c, .lst q (left.map .int), .int l, .int x, .lst true (wsD 1 W), z7, z8, z9] =
      .nx [.dct o (kI cs) (vI cs), .dct p (kI ss) (vI ss), .int c, .lst q' [], .int 0, y5, .lst true (wsD 1 (W ++ wgo (Gc cs 1) (Hc ss 1) c n left l x)), y7, y8, y9] := by
  intro n
  induction n with
  | zero =>
    intro left l x b W q z7 z8 z9 wi hm hW
    have h0 := meas_nn wi
    have s0 := sum_pos fun k hk => (wi.hl k hk).2.1
    have l0 := wi.l0
    have e : l = 0 := by unfold meas at hm; omega
    have e2 : left = [] := by
      cases left with
      | nil => rfl
      | cons k r =>
        have := (wi.hl k List.mem_cons_self).2.1
        have := sum_pos (left := r) fun q hq => (wi.hl q (List.mem_cons_of_mem _ hq)).2.1
        unfold meas at hm
        rw [List.map_cons, List.sum_cons] at hm
        omega
    subst e e2
    refine ⟨q, .int x, z7, z8, z9, ?_⟩
    unfold b__law_walk_2
    have co := lcond_ok (cs := cs) (ss := ss) (o := o) (p := p) (q := q) (c := c) (left := []) (W := W) (z5 := .int x) (z7 := z7) (z8 := z8) (z9 := z9) (Int.le_refl 0)
    rw [while_end co]
    unfold wgo
    rw [List.append_nil]
    rfl
  | succ n ih =>
    intro left l x b W q z7 z8 z9 wi hm hW
    unfold b__law_walk_2
    have co := lcond_ok (cs := cs) (ss := ss) (o := o) (p := p) (q := q) (c := c) (left := left) (W := W) (z5 := .int x) (z7 := z7) (z8 := z8) (z9 := z9) wi.l0
    by_cases hst : l = 0 ∧ left = []
    · rw [decide_eq_true hst] at co
      obtain ⟨rfl, rfl⟩ := hst
      refine ⟨q, .int x, z7, z8, z9, ?_⟩
      rw [while_end co]
      unfold wgo
      rw [if_pos ⟨rfl, rfl⟩, List.append_nil]
      rfl
    · obtain ⟨yb, lt, g0, gH, wi2, ml, hz, hx, hg, all⟩ := wi.next hst
      obtain ⟨q1, t⟩ := lturn_ok (cs := cs) (ss := ss) (o := o) (p := p) (q := q) (c := c) (l := l) (x := x) (left := left) (W := W) (z7 := z7) (z8 := z8) (z9 := z9) (by omega) hst
      obtain ⟨q2, y5, y7, y8, y9, e⟩ := ih (W := W ++ [stp (Gc cs 1) (Hc ss 1) c l (nxAt left l x)]) (q := q1) (z7 := .int (Gc cs 1 (nxAt left l x))) (z8 := .int (pN c l (Hc ss 1 (nxAt left l x)) (Gc cs 1 (nxAt left l x)))) (z9 := .int (pL c l (Hc ss 1 (nxAt left l x)) (Gc cs 1 (nxAt left l x)))) wi2 (by omega) (by simp; omega)
      refine ⟨q2, y5, y7, y8, y9, ?_⟩
      unfold b__law_walk_2 at e
      rw [decide_eq_false hst] at co
      unfold wgo
      rw [if_neg hst, while_nx co t, e, List.append_assoc]
      rfl
theorem lwalk_ok {cs ss : PL} {o p : Bool} {c : Int} (hc : OkC cs ss) (hS : OkS ss) (h1 : 1 ≤ c) : f__law_walk [.dct o (kI cs) (vI cs), .dct p (kI ss) (vI ss), .int c] = .ok (.lst true (wsD 1 (walkW cs ss c 1))) [.dct o (kI cs) (vI cs), .dct p (kI ss) (vI ss), .int c] := by
  have mz := meas_lft (.inl rfl) hc.1 (cs := cs) (s := 1)
  obtain ⟨q, y5, y7, y8, y9, e3⟩ := lwalk_go (o := o) (p := p) (n := 100) (W := []) (q := true) (z7 := .un) (z8 := .un) (z9 := .un) (WI_start (x := 0) (.inl rfl) hc hS h1) (by have := hc.2.2; have := hc.len; omega) (by simp)
  have srt := sortA_d (m := cs) (o := o) (by have := hc.len; omega)
  have e4 : (keysI cs).mergeSort (· ≤ ·) = lft 1 cs := by
    unfold lft
    congr 1
    unfold sgK keysI
    exact List.map_congr_left fun p _ => (Int.one_mul _).symm
  rw [e4] at srt
  have w0 : wsD 1 [] = [] := rfl
  rw [w0, List.nil_append] at e3
  unfold f__law_walk b__law_walk b__law_walk_1 b__law_walk_3
  unfold walkW
  cases o <;> simp [srt, e3, sizeLine_eq]
end DL
set_option Elab.async false
set_option linter.all false
set_option maxRecDepth 100000
set_option maxHeartbeats 400000
/-! DRi: the laws' own sweeps. -/
namespace DL
open PySem L2
theorem bld_pos {m : PL} (h : Nk m) : (((keysI m).mergeSort (· ≤ ·)).filter fun k => decide (0 < (lkI m k).getD 0)).map (fun k => (k, (lkI m k).getD 0)) = posI (canI m) := by
  rw [← bld_can h]
  unfold posI
  rw [List.filter_map]
  rfl
/-- [(k, m[k]) for k in sorted(m) if m[k] > 0] -/
theorem bld_cpos {m : PL} {own : List Nat} {tg : D → List D → Option (List D)} {test : Dn Bool} {elt : Dn D} {env : List D} (hn : Nk m) (hl : m.length < sizeLine)
    (h : ∀ k v, lkI m k = some v → ∃ e1, tg (.int k) env = some e1 ∧ test e1 = .ok (decide (0 < v)) e1 ∧ dU elt e1 = .ok (.tup [.int k, .int v]) e1 ∧ wipeE e1 own = env) : compD own tg test elt (((keysI m).mergeSort (· ≤ ·)).map .int) [] env = .ok (pI (posI (canI m))) env := by
  have e := comp_go (own := own) (tg := tg) (test := test) (elt := elt) (env := env) D.int (fun k => prD (k, (lkI m k).getD 0)) (fun k => decide (0 < (lkI m k).getD 0)) ((keysI m).mergeSort (· ≤ ·)) [] (fun k hk => by
    have hk2 : k ∈ keysI m := (List.mergeSort_perm _ _).mem_iff.mp hk
    obtain ⟨v, hv⟩ := mem_keys.mp hk2
    have hv2 := (lk_mem hn).mpr hv
    obtain ⟨e1, h1, h2, h3, h4⟩ := h k v hv2
    rw [hv2]
    refine ⟨e1, e1, h1, h2, ?_⟩
    split
    · exact ⟨e1, h3, h4⟩
    · exact h4) (by rw [(List.mergeSort_perm _ _).length_eq]; unfold keysI; rw [List.length_map]; simpa using hl)
  rw [e, List.nil_append, ← bld_pos hn]
  unfold pI
  rw [List.map_map]
  rfl
/-- .. in the dict's own order -/
theorem bld_upos {m : PL} {own : List Nat} {tg : D → List D → Option (List D)} {test : Dn Bool} {elt : Dn D} {env : List D} (hn : Nk m) (hl : m.length < sizeLine)
    (h : ∀ k v, lkI m k = some v → ∃ e1, tg (.int k) env = some e1 ∧ test e1 = .ok (decide (0 < v)) e1 ∧ dU elt e1 = .ok (.tup [.int k, .int v]) e1 ∧ wipeE e1 own = env) : compD own tg test elt ((keysI m).map .int) [] env = .ok (pI (posI m)) env := by
  have e := comp_go (own := own) (tg := tg) (test := test) (elt := elt) (env := env) (fun p : Int × Int => D.int p.1) prD (fun p => decide (0 < p.2)) m [] (fun p hp => by
    have hv2 := (lk_mem (k := p.1) (v := p.2) hn).mpr hp
    obtain ⟨e1, h1, h2, h3, h4⟩ := h p.1 p.2 hv2
    refine ⟨e1, e1, h1, h2, ?_⟩
    split
    · exact ⟨e1, h3, h4⟩
    · exact h4) (by simpa using hl)
  unfold keysI
  rw [List.map_map]
  exact e
theorem lswept_go {c0 c1 c2 : D} : ∀ {W : List W5} {m : PL} {x4 x5 x6 x7 x8 : D}, Nk m → m.length + W.length < 10000 →
    ∃ y4 y5 y6 y7 y8, forD (tgTup [tgName 4, tgName 5, tgName 6, tgName 7, tgName 8]) b__law_swept_2_b (wsD 1 W) [c0, c1, c2, .dct true (kI m) (vI m), x4, x5, x6, x7, x8] = .nx [c0, c1, c2, .dct true (kI (aft 1 m W)) (vI (aft 1 m W)), y4, y5, y6, y7, y8]
  | [], m, x4, x5, x6, x7, x8, _, _ => ⟨x4, x5, x6, x7, x8, rfl⟩
  | w :: W, m, x4, x5, x6, x7, x8, hn, hl => by
    rw [List.length_cons] at hl
    have l2 := len_put (p := (1 * w.1, w.2.2.2.2)) hn
    obtain ⟨y4, y5, y6, y7, y8, e⟩ := lswept_go (c0 := c0) (c1 := c1) (c2 := c2) (W := W) (m := putI m (1 * w.1, w.2.2.2.2)) (x4 := .int (1 * w.1)) (x5 := .int w.2.1) (x6 := .int w.2.2.1) (x7 := .int w.2.2.2.1) (x8 := .int w.2.2.2.2) (Nk_put hn) (by omega)
    refine ⟨y4, y5, y6, y7, y8, ?_⟩
    have hs : m.length < sizeLine := by rw [sizeLine_eq]; omega
    have b : b__law_swept_2_b [c0, c1, c2, .dct true (kI m) (vI m), .int (1 * w.1), .int w.2.1, .int w.2.2.1, .int w.2.2.2.1, .int w.2.2.2.2] =
        .nx [c0, c1, c2, .dct true (kI (putI m (1 * w.1, w.2.2.2.2))) (vI (putI m (1 * w.1, w.2.2.2.2))), .int (1 * w.1), .int w.2.1, .int w.2.2.1, .int w.2.2.2.1, .int w.2.2.2.2] := by
      have p := putD_I (k := 1 * w.1) (v := w.2.2.2.2) hn hs
      generalize (1 : Int) * w.1 = y at *
      unfold b__law_swept_2_b b__law_swept_2_1
      simp [p]
    show forD _ b__law_swept_2_b (wD 1 w :: wsD 1 W) _ = _
    unfold forD
    rw [tg5]
    show (match b__law_swept_2_b [c0, c1, c2, .dct true (kI m) (vI m), .int (1 * w.1), .int w.2.1, .int w.2.2.1, .int w.2.2.2.1, .int w.2.2.2.2] with
      | .nx e2 => forD _ b__law_swept_2_b (wsD 1 W) e2
      | .ct e2 => forD _ b__law_swept_2_b (wsD 1 W) e2
      | .bk e2 => .nx e2
      | r => r) = _
    rw [b]
    exact e
theorem lswept_ok {cs ss : PL} {o p : Bool} {c : Int} (hc : OkC cs ss) (hS : OkS ss) (h1 : 1 ≤ c) (hl : cs.length + (walkW cs ss c 1).length < 64) :
    f__law_swept [.dct o (kI cs) (vI cs), .dct p (kI ss) (vI ss), .int c] = .ok (.dct true (kI (swpI cs ss c 1)) (vI (swpI cs ss c 1))) [.dct o (kI cs) (vI cs), .dct p (kI ss) (vI ss), .int c] := by
  have wk := lwalk_ok (o := o) (p := p) hc hS h1
  have hn := hc.1
  obtain ⟨y4, y5, y6, y7, y8, g⟩ := lswept_go (c0 := .dct o (kI cs) (vI cs)) (c1 := .dct p (kI ss) (vI ss)) (c2 := .int c) (W := walkW cs ss c 1) (m := cs) (x4 := .un) (x5 := .un) (x6 := .un) (x7 := .un) (x8 := .un) hn (by omega)
  have na : Nk (aft 1 cs (walkW cs ss c 1)) := Nk_aft hn
  have la := len_aft (s := 1) (W := walkW cs ss c 1) hn
  have e0 : swpI cs ss c 1 = posI (canI (aft 1 cs (walkW cs ss c 1))) := by unfold swpI; rw [can_pos na]
  have nz : Nk (posI (canI (aft 1 cs (walkW cs ss c 1)))) := Nk_pos (Nk_can na)
  rw [e0]
  generalize aft 1 cs (walkW cs ss c 1) = m at *
  have hlt : m.length < sizeLine := by rw [sizeLine_eq]; omega
  have srt := sortA_d (m := m) (o := true) (by omega)
  have cm : c__law_swept_1 [.dct o (kI cs) (vI cs), .dct p (kI ss) (vI ss), .int c, .dct true (kI m) (vI m), y4, y5, y6, y7, y8] = .ok (.lst true (pI (posI (canI m)))) [.dct o (kI cs) (vI cs), .dct p (kI ss) (vI ss), .int c, .dct true (kI m) (vI m), .un, y5, y6, y7, y8] := by
    unfold c__law_swept_1
    refine dLc_ok (ks := [.lst false (((keysI m).mergeSort (· ≤ ·)).map .int)]) (xs := ((keysI m).mergeSort (· ≤ ·)).map .int) (env1 := [.dct o (kI cs) (vI cs), .dct p (kI ss) (vI ss), .int c, .dct true (kI m) (vI m), y4, y5, y6, y7, y8]) (by simp [srt]) rfl
      (bld_cpos na hlt fun k v hk => ⟨[.dct o (kI cs) (vI cs), .dct p (kI ss) (vI ss), .int c, .dct true (kI m) (vI m), .int k, y5, y6, y7, y8], rfl, ?_, ?_, rfl⟩) rfl
    · have g := fGet_I (o := true) hk
      simp [g]
    · have g := fGet_I (o := true) hk
      simp [g, sizeLine_eq]
  have d1 := dictA_l (o := true) hn
  have d2 := dictA_l (o := true) nz
  unfold f__law_swept b__law_swept b__law_swept_1 b__law_swept_2 b__law_swept_3
  cases o <;> cases p <;> simp [items_I, d1, wk, g, cm, d2]
theorem lhalf_go {c0 c1 c2 : D} {i : Int} : ∀ {W : List W5} {m : PL} {l : Int} {x6 x7 x8 x9 x10 : D}, Nk m → m.length + W.length < 10000 →
    ∃ y6 y7 y8 y9 y10, forD (tgTup [tgName 6, tgName 7, tgName 8, tgName 9, tgName 10]) b__law_half_2_b (wsD 1 W) [c0, c1, c2, .int i, .dct true (kI m) (vI m), .int l, x6, x7, x8, x9, x10] =
      .nx [c0, c1, c2, .int i, .dct true (kI (aft 1 m (W.filter fun w => decide (w.1 ≤ i)))) (vI (aft 1 m (W.filter fun w => decide (w.1 ≤ i)))), .int (lastL l (W.filter fun w => decide (w.1 ≤ i))), y6, y7, y8, y9, y10]
  | [], m, l, x6, x7, x8, x9, x10, _, _ => ⟨x6, x7, x8, x9, x10, rfl⟩
  | w :: W, m, l, x6, x7, x8, x9, x10, hn, hl => by
    rw [List.length_cons] at hl
    have hs : m.length < sizeLine := by rw [sizeLine_eq]; omega
    by_cases hi : w.1 ≤ i
    · have l2 := len_put (p := (1 * w.1, w.2.2.2.2)) hn
      obtain ⟨y6, y7, y8, y9, y10, e⟩ := lhalf_go (c0 := c0) (c1 := c1) (c2 := c2) (i := i) (W := W) (m := putI m (1 * w.1, w.2.2.2.2)) (l := w.2.2.2.1) (x6 := .int (1 * w.1)) (x7 := .int w.2.1) (x8 := .int w.2.2.1) (x9 := .int w.2.2.2.1) (x10 := .int w.2.2.2.2) (Nk_put hn) (by omega)
      refine ⟨y6, y7, y8, y9, y10, ?_⟩
      have b : b__law_half_2_b [c0, c1, c2, .int i, .dct true (kI m) (vI m), .int l, .int (1 * w.1), .int w.2.1, .int w.2.2.1, .int w.2.2.2.1, .int w.2.2.2.2] =
          .nx [c0, c1, c2, .int i, .dct true (kI (putI m (1 * w.1, w.2.2.2.2))) (vI (putI m (1 * w.1, w.2.2.2.2))), .int w.2.2.2.1, .int (1 * w.1), .int w.2.1, .int w.2.2.1, .int w.2.2.2.1, .int w.2.2.2.2] := by
        have p := putD_I (k := 1 * w.1) (v := w.2.2.2.2) hn hs
        have hi2 : 1 * w.1 ≤ i := by omega
        generalize (1 : Int) * w.1 = y at *
        unfold b__law_half_2_b b__law_half_2_1
        simp [p, hi2, tgSubD, sizeLine_eq]
      rw [List.filter_cons_of_pos (by simpa using hi)]
      show forD _ b__law_half_2_b (wD 1 w :: wsD 1 W) _ = _
      unfold forD
      rw [tg5]
      show (match b__law_half_2_b [c0, c1, c2, .int i, .dct true (kI m) (vI m), .int l, .int (1 * w.1), .int w.2.1, .int w.2.2.1, .int w.2.2.2.1, .int w.2.2.2.2] with
        | .nx e2 => forD _ b__law_half_2_b (wsD 1 W) e2
        | .ct e2 => forD _ b__law_half_2_b (wsD 1 W) e2
        | .bk e2 => .nx e2
        | r => r) = _
      rw [b]
      exact e
    · obtain ⟨y6, y7, y8, y9, y10, e⟩ := lhalf_go (c0 := c0) (c1 := c1) (c2 := c2) (i := i) (W := W) (m := m) (l := l) (x6 := .int (1 * w.1)) (x7 := .int w.2.1) (x8 := .int w.2.2.1) (x9 := .int w.2.2.2.1) (x10 := .int w.2.2.2.2) hn (by omega)
      refine ⟨y6, y7, y8, y9, y10, ?_⟩
      have b : b__law_half_2_b [c0, c1, c2, .int i, .dct true (kI m) (vI m), .int l, .int (1 * w.1), .int w.2.1, .int w.2.2.1, .int w.2.2.2.1, .int w.2.2.2.2] =
          .nx [c0, c1, c2, .int i, .dct true (kI m) (vI m), .int l, .int (1 * w.1), .int w.2.1, .int w.2.2.1, .int w.2.2.2.1, .int w.2.2.2.2] := by
        have hi2 : ¬ (1 * w.1 ≤ i) := by omega
        generalize (1 : Int) * w.1 = y at *
        unfold b__law_half_2_b b__law_half_2_1
        simp [hi2]
      rw [List.filter_cons_of_neg (by simpa using hi)]
      show forD _ b__law_half_2_b (wD 1 w :: wsD 1 W) _ = _
      unfold forD
      rw [tg5]
      show (match b__law_half_2_b [c0, c1, c2, .int i, .dct true (kI m) (vI m), .int l, .int (1 * w.1), .int w.2.1, .int w.2.2.1, .int w.2.2.2.1, .int w.2.2.2.2] with
        | .nx e2 => forD _ b__law_half_2_b (wsD 1 W) e2
        | .ct e2 => forD _ b__law_half_2_b (wsD 1 W) e2
        | .bk e2 => .nx e2
        | r => r) = _
      rw [b]
      exact e
/-- the first steps, up to a place -/
def uptoW (i : Int) (W : List W5) : List W5 := W.filter fun w => decide (w.1 ≤ i)
theorem lhalf_ok {cs ss : PL} {o p : Bool} {c i : Int} (h : OkR cs ss) (h1 : 1 ≤ c) :
    f__law_half [.dct o (kI cs) (vI cs), .dct p (kI ss) (vI ss), .int c, .int i] =
      .ok (.tup [.dct false (kI (posI (aft 1 cs (uptoW i (walkW cs ss c 1))))) (vI (posI (aft 1 cs (uptoW i (walkW cs ss c 1))))), .int (lastL 0 (uptoW i (walkW cs ss c 1)))]) [.dct o (kI cs) (vI cs), .dct p (kI ss) (vI ss), .int c, .int i] := by
  have wk := lwalk_ok (o := o) (p := p) h.c h.s h1
  have wl := walk_len (.inl rfl) h h1
  have hn := h.c.1
  obtain ⟨y6, y7, y8, y9, y10, g⟩ := lhalf_go (c0 := .dct o (kI cs) (vI cs)) (c1 := .dct p (kI ss) (vI ss)) (c2 := .int c) (i := i) (W := walkW cs ss c 1) (m := cs) (l := 0) (x6 := .un) (x7 := .un) (x8 := .un) (x9 := .un) (x10 := .un) hn (by have := h.c.len; omega)
  rw [show (walkW cs ss c 1).filter (fun w => decide (w.1 ≤ i)) = uptoW i (walkW cs ss c 1) from rfl] at g
  have fl : (uptoW i (walkW cs ss c 1)).length ≤ 80 := Nat.le_trans (List.length_filter_le _ _) wl
  have na : Nk (aft 1 cs (uptoW i (walkW cs ss c 1))) := Nk_aft hn
  have la := len_aft (s := 1) (W := uptoW i (walkW cs ss c 1)) hn
  have cl := h.c.len
  generalize uptoW i (walkW cs ss c 1) = W' at *
  generalize aft 1 cs W' = m at *
  have hlt : m.length < sizeLine := by rw [sizeLine_eq]; omega
  have kk := keys_I (m := m)
  have cm : c__law_half_1 [.dct o (kI cs) (vI cs), .dct p (kI ss) (vI ss), .int c, .int i, .dct true (kI m) (vI m), .int (lastL 0 W'), y6, y7, y8, y9, y10] = .ok (.lst true (pI (posI m))) [.dct o (kI cs) (vI cs), .dct p (kI ss) (vI ss), .int c, .int i, .dct false (kI m) (vI m), .int (lastL 0 W'), .un, y7, y8, y9, y10] := by
    unfold c__law_half_1
    refine dLc_ok (ks := [.dct false (kI m) (vI m)]) (xs := (keysI m).map .int) (env1 := [.dct o (kI cs) (vI cs), .dct p (kI ss) (vI ss), .int c, .int i, .dct false (kI m) (vI m), .int (lastL 0 W'), y6, y7, y8, y9, y10]) (by simp [kk]) rfl
      (bld_upos na hlt fun k v hk => ⟨[.dct o (kI cs) (vI cs), .dct p (kI ss) (vI ss), .int c, .int i, .dct false (kI m) (vI m), .int (lastL 0 W'), .int k, y7, y8, y9, y10], rfl, ?_, ?_, rfl⟩) rfl
    · have g := fGet_I (o := false) hk
      simp [g]
    · have g := fGet_I (o := false) hk
      simp [g, sizeLine_eq]
  have d1 := dictA_l (o := true) hn
  have d2 := dictA_l (o := true) (Nk_pos na)
  unfold f__law_half b__law_half b__law_half_1 b__law_half_2 b__law_half_3
  cases o <;> cases p <;> simp [items_I, d1, wk, g, cm, d2, sizeLine_eq]
theorem ltrace_ok {cs ss : PL} {o p : Bool} {c : Int} (h : OkR cs ss) (h1 : 1 ≤ c) : f__law_trace [.dct o (kI cs) (vI cs), .dct p (kI ss) (vI ss), .int c] = .ok (.lst true (wsD 1 (walkW cs ss c 1))) [.dct o (kI cs) (vI cs), .dct p (kI ss) (vI ss), .int c] := by
  have wk := lwalk_ok (o := o) (p := p) h.c h.s h1
  have wl := walk_len (.inl rfl) h h1
  have cm : c__law_trace_1 [.dct o (kI cs) (vI cs), .dct p (kI ss) (vI ss), .int c, .lst true (wsD 1 (walkW cs ss c 1)), .un, .un, .un, .un, .un] = .ok (.lst true (wsD 1 (walkW cs ss c 1))) [.dct o (kI cs) (vI cs), .dct p (kI ss) (vI ss), .int c, .lst false (wsD 1 (walkW cs ss c 1)), .un, .un, .un, .un, .un] := by
    unfold c__law_trace_1
    refine dLc_ok (ks := [.lst false (wsD 1 (walkW cs ss c 1))]) (xs := wsD 1 (walkW cs ss c 1)) (env1 := [.dct o (kI cs) (vI cs), .dct p (kI ss) (vI ss), .int c, .lst false (wsD 1 (walkW cs ss c 1)), .un, .un, .un, .un, .un]) (by simp) rfl
      (comp_all (wD 1) (wD 1) (walkW cs ss c 1) (fun w hw => ⟨[.dct o (kI cs) (vI cs), .dct p (kI ss) (vI ss), .int c, .lst false (wsD 1 (walkW cs ss c 1)), .int (1 * w.1), .int w.2.1, .int w.2.2.1, .int w.2.2.2.1, .int w.2.2.2.2], [.dct o (kI cs) (vI cs), .dct p (kI ss) (vI ss), .int c, .lst false (wsD 1 (walkW cs ss c 1)), .int (1 * w.1), .int w.2.1, .int w.2.2.1, .int w.2.2.2.1, .int w.2.2.2.2], tg5, ?_, rfl⟩) (by rw [sizeLine_eq]; omega)) rfl
    unfold wD
    generalize (1 : Int) * w.1 = y at *
    simp [sizeLine_eq]
  unfold f__law_trace b__law_trace
  cases o <;> cases p <;> simp [wk, cm]
end DL
set_option Elab.async false
set_option linter.all false
set_option maxRecDepth 100000
set_option maxHeartbeats 400000
/-! DRj: what is small enough to be shown; more lists. -/
namespace DL
open PySem L2
theorem repr_int {n : Int} (h : n.natAbs < 2 ^ 1000) : ∃ t, fRepr [.int n] = some (.str t) := repr_ok (by unfold okR; exact log2_small h) (by unfold dep; omega) (by unfold blk; omega)
def SmlW (s : Int) (W : List W5) : Prop := ∀ w ∈ W, (s * w.1).natAbs < 2 ^ 1000 ∧ w.2.1.natAbs < 2 ^ 1000 ∧ w.2.2.1.natAbs < 2 ^ 1000 ∧ w.2.2.2.1.natAbs < 2 ^ 1000 ∧ w.2.2.2.2.natAbs < 2 ^ 1000
theorem okR_ws {s : Int} : ∀ {W : List W5}, SmlW s W → okRL (wsD s W) = true ∧ depL (wsD s W) ≤ 1 ∧ blkL (wsD s W) ≤ 6 * W.length + 5 * W.length
  | [], _ => by unfold wsD okRL depL blkL; simp
  | w :: W, h => by
    obtain ⟨h1, h2, h3⟩ := okR_ws (s := s) (W := W) fun q hq => h q (List.mem_cons_of_mem _ hq)
    obtain ⟨g1, g2, g3, g4, g5⟩ := h w List.mem_cons_self
    have l1 := log2_small g1
    have l2 := log2_small g2
    have l3 := log2_small g3
    have l4 := log2_small g4
    have l5 := log2_small g5
    have e1 : okR (wD s w) = true := by
      unfold wD
      simp only [okR, okRL, l1, l2, l3, l4, l5, Bool.and_self]
    have e2 : dep (wD s w) = 1 := rfl
    have e3 : blk (wD s w) = 5 := rfl
    show okRL (wD s w :: wsD s W) = true ∧ depL (wD s w :: wsD s W) ≤ 1 ∧ blkL (wD s w :: wsD s W) ≤ _
    unfold okRL depL blkL
    rw [e1, e2, e3, h1, List.length_cons]
    exact ⟨rfl, by omega, by omega⟩
theorem repr_ws {s : Int} {W : List W5} {o : Bool} (h : SmlW s W) (hl : W.length ≤ 400) : ∃ t, fRepr [.lst o (wsD s W)] = some (.str t) := by
  obtain ⟨h1, h2, h3⟩ := okR_ws h
  refine repr_ok ?_ ?_ ?_
  · unfold okR; exact h1
  · unfold dep; omega
  · unfold blk; omega
theorem cutU {ns : List Int} {k : Nat} : cutD (ns.map .int) none (some (k : Int)) = (ns.take k).map .int := by
  unfold cutD
  rw [HT.sIx_nat, HT.sIx_none, List.drop_zero, Nat.sub_zero, List.map_take]
  rw [List.take_eq_take_iff]
  omega
theorem slU {o : Bool} {ns : List Int} (k : Nat) : fSlU (.lst o (ns.map .int)) (.int (k : Int)) = some (.lst true ((ns.take k).map .int)) := by
  show (if frozL (ns.map .int) = true then some (D.lst true (cutD (ns.map .int) none (some (k : Int)))) else none) = _
  rw [if_pos (frozL_int ns), cutU]
theorem add_ints {o o' : Bool} {ns ms : List Int} (h : ns.length + ms.length ≤ 10000) : fAdd (.lst o (ns.map .int)) (.lst o' (ms.map .int)) = some (.lst true ((ns ++ ms).map .int)) := by
  have l1 : (ns.map D.int).length + (ms.map D.int).length ≤ sizeLine := by rw [sizeLine_eq, List.length_map, List.length_map]; omega
  have f1 := frozL_int ns
  have f2 := frozL_int ms
  rw [List.map_append]
  generalize ns.map D.int = a at *
  generalize ms.map D.int = b at *
  have e2 : fCat (.lst o a) (.lst o' b) = some (.lst true (a ++ b)) := by
    show (if (frozL a && frozL b && decide (a.length + b.length ≤ sizeLine)) = true then some (D.lst true (a ++ b)) else none) = _
    rw [f1, f2, decide_eq_true l1]
    rfl
  show (match fInt (fun i j => D.int (i + j)) (.lst o a) (.lst o' b) with
    | some d => some d
    | none => fOr fCat (fOr fCatT fCatS) (.lst o a) (.lst o' b)) = _
  show (match fCat (.lst o a) (.lst o' b) with
    | some d => some d
    | none => _) = _
  rw [e2]
/-- what the steps hold -/
theorem Chn.sml {G H : Int → Int} {c : Int} (hc : c ≤ 99) (hH : ∀ y, H y ≤ 9) : ∀ {W : List W5} {x l : Int}, Chn G H c x l W → 0 ≤ l → l ≤ 99 → ∀ w ∈ W, x ≤ w.1 ∧ 0 ≤ w.2.1 ∧ w.2.1 ≤ 99 ∧ -200 ≤ w.2.2.1 ∧ w.2.2.1 ≤ 200 ∧ 0 ≤ w.2.2.2.1 ∧ w.2.2.2.1 ≤ 99 ∧ 0 ≤ w.2.2.2.2 ∧ w.2.2.2.2 ≤ 9
  | [], _, _, _, _, _, w, hw => absurd hw List.not_mem_nil
  | v :: W, x, l, h, h0, h1, w, hw => by
    obtain ⟨g1, g2, g3, g4, g5, g6, g7, g8, g9⟩ := h
    have := hH v.1
    rcases List.mem_cons.mp hw with e | e
    · subst e
      refine ⟨g1, by omega, by omega, by omega, by omega, g4, by omega, g6, by omega⟩
    · obtain ⟨q1, q2⟩ := Chn.sml hc hH g9 g4 (by omega) w e
      exact ⟨by omega, q2⟩
theorem Hc_le {ss : PL} (h : OkS ss) (s y : Int) : Hc ss s y ≤ 9 := (cap_pos h (s * y)).2
theorem lastL_le {G H : Int → Int} {c : Int} : ∀ {W : List W5} {x l : Int}, Chn G H c x l W → l ≤ c → lastL l W ≤ c
  | [], _, _, _, h => h
  | v :: W, x, l, h, _ => by
    obtain ⟨g1, g2, g3, g4, g5, g6, g7, g8, g9⟩ := h
    exact lastL_le (l := v.2.2.2.1) g9 g5
theorem aft_mem {s : Int} : ∀ {W : List W5} {m : PL} {p : Int × Int}, Nk m → p ∈ aft s m W → p ∈ m ∨ ∃ w ∈ W, p = (s * w.1, w.2.2.2.2)
  | [], _, _, _, h => .inl h
  | w :: W, m, p, hn, h => by
    rcases aft_mem (W := W) (m := putI m (s * w.1, w.2.2.2.2)) (Nk_put hn) h with e | ⟨v, hv, e⟩
    · rcases mem_put hn e with e | e
      · exact .inr ⟨w, List.mem_cons_self, e⟩
      · exact .inl e
    · exact .inr ⟨v, List.mem_cons_of_mem _ hv, e⟩
/-- rows within bounds -/
def Far (B : Int) (m : PL) : Prop := ∀ p ∈ m, -B ≤ p.1 ∧ p.1 ≤ B
theorem far_lft {s B : Int} {cs : PL} (hs : s = 1 ∨ s = -1) (h : Far B cs) : ∀ k ∈ lft s cs, -B ≤ k ∧ k ≤ B := fun k hk => by
  obtain ⟨j, hj, rfl⟩ := mem_lft.mp hk
  obtain ⟨v, hv⟩ := mem_keys.mp hj
  have := h (j, v) hv
  rcases hs with rfl | rfl <;> omega
theorem walk_far {cs ss : PL} {c s B : Int} (hs : s = 1 ∨ s = -1) (h : OkR cs ss) (h1 : 1 ≤ c) (h2 : c ≤ 99) (hB : Far B cs) (h0 : 0 ≤ B) : ∀ w ∈ walkW cs ss c s, -B ≤ w.1 ∧ w.1 ≤ B + 100 ∧ 0 ≤ w.2.1 ∧ w.2.1 ≤ 99 ∧ -200 ≤ w.2.2.1 ∧ w.2.2.1 ≤ 200 ∧ 0 ≤ w.2.2.2.1 ∧ w.2.2.2.1 ≤ 99 ∧ 0 ≤ w.2.2.2.2 ∧ w.2.2.2.2 ≤ 9 := fun w hw => by
  obtain ⟨w1, _, _, _⟩ := walk_ok hs h h1
  obtain ⟨q1, q2⟩ := w1.sml h2 (fun y => Hc_le h.s s y) (Int.le_refl 0) (by omega) w hw
  have f := far_lft hs hB
  have up := wgo_far (n := 100) (B := B) (WI_start (x := 0) hs h.c h.s h1) (fun k hk => (f k hk).2) (fun z => absurd rfl z) w hw
  have lo : -B ≤ (lft s cs).headD 0 := by
    cases e : lft s cs with
    | nil => show -B ≤ 0; omega
    | cons k r => exact (f k (by rw [e]; exact List.mem_cons_self)).1
  exact ⟨by omega, by have := up; simpa using this, q2⟩
theorem sml_far {B : Int} {m : PL} (h : Far B m) (hB : B < 2 ^ 900) (hv : ∀ p ∈ m, 0 ≤ p.2 ∧ p.2 ≤ 100) : Sml m := fun p hp => by
  have h1 := h p hp
  have h2 := hv p hp
  have : (2 : Int) ^ 900 ≤ 2 ^ 1000 := by decide +kernel
  have e : ((2 ^ 1000 : Nat) : Int) = (2 : Int) ^ 1000 := by norm_cast
  have e2 : (100 : Int) < 2 ^ 900 := by decide +kernel
  constructor
  · have : (p.1.natAbs : Int) < ((2 ^ 1000 : Nat) : Int) := by rw [e]; omega
    exact_mod_cast this
  · have : (p.2.natAbs : Int) < ((2 ^ 1000 : Nat) : Int) := by rw [e]; omega
    exact_mod_cast this
theorem aft_far {cs ss : PL} {c s B : Int} {W : List W5} (hs : s = 1 ∨ s = -1) (h : OkR cs ss) (h1 : 1 ≤ c) (h2 : c ≤ 99) (hB : Far B cs) (h0 : 0 ≤ B) (hW : ∀ w ∈ W, w ∈ walkW cs ss c s) : Far (B + 100) (aft s cs W) := fun p hp => by
  rcases aft_mem h.c.1 hp with e | ⟨w, hw, e⟩
  · have := hB p e; omega
  · have := walk_far hs h h1 h2 hB h0 w (hW w hw)
    rw [e]
    show -(B + 100) ≤ s * w.1 ∧ s * w.1 ≤ B + 100
    rcases hs with rfl | rfl <;> omega
theorem okC_val {cs ss : PL} (h : OkC cs ss) (hs : OkS ss) : ∀ p ∈ cs, 0 ≤ p.2 ∧ p.2 ≤ 100 := fun p hp => by
  have := h.2.1 p hp
  have := cap_pos hs p.1
  omega
theorem okS_sml {ss : PL} (h : OkS ss) : Sml ss := sml_far (B := 60) (fun p hp => by have := h.2.2 p hp; omega) (by decide +kernel) (fun p hp => by have := h.2.2 p hp; omega)
theorem Far.can {B : Int} {m : PL} (h : Far B m) : Far B (canI m) := fun p hp => h p (mem_can.mp hp)
theorem Far.pos {B : Int} {m : PL} (h : Far B m) : Far B (posI m) := fun p hp => h p (List.mem_filter.mp hp).1
theorem walk_smlW {cs ss : PL} {c s B : Int} (hs : s = 1 ∨ s = -1) (h : OkR cs ss) (h1 : 1 ≤ c) (h2 : c ≤ 99) (hB : Far B cs) (h0 : 0 ≤ B) (hb : B < 2 ^ 900) : SmlW s (walkW cs ss c s) := fun w hw => by
  obtain ⟨q1, q2, q3, q4, q5, q6, q7, q8, q9, q10⟩ := walk_far hs h h1 h2 hB h0 w hw
  have k0 : (2 : Int) ^ 900 + 1000 ≤ 2 ^ 1000 := by decide +kernel
  have e : ((2 ^ 1000 : Nat) : Int) = (2 : Int) ^ 1000 := by norm_cast
  have e2 : (1000 : Int) < 2 ^ 1000 := by decide +kernel
  have key : ∀ z : Int, -(2 ^ 900) - 200 ≤ z → z ≤ 2 ^ 900 + 200 → z.natAbs < 2 ^ 1000 := fun z z1 z2 => by
    have : (z.natAbs : Int) < ((2 ^ 1000 : Nat) : Int) := by rw [e]; omega
    exact_mod_cast this
  have p9 : (0 : Int) ≤ 2 ^ 900 := by decide +kernel
  refine ⟨key _ ?_ ?_, key _ (by omega) (by omega), key _ (by omega) (by omega), key _ (by omega) (by omega), key _ (by omega) (by omega)⟩
  · rcases hs with rfl | rfl <;> omega
  · rcases hs with rfl | rfl <;> omega
end DL
set_option Elab.async false
set_option linter.all false
set_option maxRecDepth 100000
set_option maxHeartbeats 400000
/-! DRk: a sweep and the inverse one, in plain Lean. -/
namespace DL
/-- passing back -/
theorem pP_back {c b z a : Int} : pL c (pL c b z a) z (pN c b z a) = b ∧ pN c (pL c b z a) z (pN c b z a) = a := by
  unfold pL pN upP dnP
  constructor
  all_goals (split <;> split <;> split <;> split <;> omega)
/-- all that a way is: the next box when there is a load, else the next one with items -/
def Lnk (G H : Int → Int) (c : Int) : Int → Int → List W5 → Prop
  | b, l, [] => l = 0 ∧ ∀ y, b ≤ y → G y = 0
  | b, l, w :: ws => w = stp G H c l w.1 ∧ b ≤ w.1 ∧ (0 < l → w.1 = b) ∧ (∀ y, b ≤ y → y < w.1 → G y = 0) ∧ (0 < l ∨ 0 < G w.1) ∧ 0 ≤ l ∧ l ≤ c ∧ 0 ≤ G w.1 ∧ G w.1 ≤ H w.1 ∧ Lnk G H c (w.1 + 1) w.2.2.2.1 ws
theorem wgo_lnk {G H : Int → Int} {c : Int} : ∀ {n : Nat} {left : List Int} {l x b : Int}, WI G H c left l x b → meas G left l ≤ n → Lnk G H c b l (wgo G H c n left l x)
  | 0, left, l, x, b, h, hm => by
    have h0 := meas_nn h
    have s0 := sum_pos fun k hk => (h.hl k hk).2.1
    have l0 := h.l0
    have e : l = 0 := by unfold meas at hm; omega
    have e2 : left = [] := by
      cases left with
      | nil => rfl
      | cons k r =>
        have := (h.hl k List.mem_cons_self).2.1
        have := sum_pos (left := r) fun q hq => (h.hl q (List.mem_cons_of_mem _ hq)).2.1
        unfold meas at hm
        rw [List.map_cons, List.sum_cons] at hm
        omega
    subst e e2
    unfold wgo
    exact ⟨rfl, fun y hy => h.no y hy List.not_mem_nil⟩
  | n + 1, left, l, x, b, h, hm => by
    unfold wgo
    by_cases hs : l = 0 ∧ left = []
    · rw [if_pos hs]
      obtain ⟨rfl, rfl⟩ := hs
      exact ⟨rfl, fun y hy => h.no y hy List.not_mem_nil⟩
    · rw [if_neg hs]
      obtain ⟨yb, lt, g0, gH, wi, ml, hz, hx, hg, all⟩ := h.next hs
      have l0 := h.l0
      refine ⟨rfl, yb, fun hl => ?_, fun y h1 h2 => h.no y h1 fun z => ?_, ?_, l0, h.lc, g0, gH, wgo_lnk (l := pL c l (H (nxAt left l x)) (G (nxAt left l x))) wi (by omega)⟩
      · show nxAt left l x = b
        rw [hx (by omega), h.nx (by omega)]
      · have h2' : y < nxAt left l x := h2
        rcases all y z with e | e
        · omega
        · have := lt y e; omega
      · by_cases h0 : 0 < l
        · exact .inl h0
        · right
          obtain ⟨r, hr⟩ := hz (by omega)
          have hm2 : ∀ y, left = y :: r → y ∈ left := fun y e => by rw [e]; exact List.mem_cons_self
          have := (h.hl _ (hm2 _ hr)).2.1
          show 0 < G (nxAt left l x)
          omega
theorem Lnk.uniq {G H : Int → Int} {c : Int} : ∀ {W V : List W5} {b l : Int}, Lnk G H c b l W → Lnk G H c b l V → W = V
  | [], [], _, _, _, _ => rfl
  | [], v :: V, b, l, h, k => by
    obtain ⟨h1, h2⟩ := h
    obtain ⟨k1, k2, k3, k4, k5, _⟩ := k
    have := h2 v.1 k2
    omega
  | w :: W, [], b, l, k, h => by
    obtain ⟨h1, h2⟩ := h
    obtain ⟨k1, k2, k3, k4, k5, _⟩ := k
    have := h2 w.1 k2
    omega
  | w :: W, v :: V, b, l, h, k => by
    obtain ⟨h1, h2, h3, h4, h5, _, _, _, _, h6⟩ := h
    obtain ⟨k1, k2, k3, k4, k5, _, _, _, _, k6⟩ := k
    have e : w.1 = v.1 := by
      by_cases hl : 0 < l
      · rw [h3 hl, k3 hl]
      · have a1 : ¬ v.1 < w.1 := fun z => by have := h4 v.1 k2 z; omega
        have a2 : ¬ w.1 < v.1 := fun z => by have := k4 w.1 h2 z; omega
        omega
    have e2 : w = v := by rw [h1, k1, e]
    subst e2
    rw [Lnk.uniq h6 k6]
theorem Lnk.lower {G H : Int → Int} {c : Int} : ∀ {W : List W5} {b b' : Int}, Lnk G H c b 0 W → b' ≤ b → (∀ y, b' ≤ y → y < b → G y = 0) → Lnk G H c b' 0 W
  | [], b, b', h, hb, hz => ⟨rfl, fun y hy => by
    by_cases h2 : b ≤ y
    · exact h.2 y h2
    · exact hz y hy (by omega)⟩
  | w :: W, b, b', h, hb, hz => by
    obtain ⟨h1, h2, h3, h4, h5, h6⟩ := h
    refine ⟨h1, by omega, fun z => absurd z (by omega), fun y h7 h8 => ?_, h5, h6⟩
    by_cases h9 : b ≤ y
    · exact h4 y h9 h8
    · exact hz y h7 (by omega)
theorem Lnk.ge {G H : Int → Int} {c : Int} : ∀ {W : List W5} {b l : Int}, Lnk G H c b l W → ∀ w ∈ W, b ≤ w.1
  | [], _, _, _, w, hw => absurd hw List.not_mem_nil
  | v :: W, b, l, h, w, hw => by
    obtain ⟨h1, h2, h3, h4, h5, _, _, _, _, h6⟩ := h
    rcases List.mem_cons.mp hw with e | e
    · rw [e]; exact h2
    · have := h6.ge w e; omega
theorem Lnk.asc {G H : Int → Int} {c : Int} : ∀ {W : List W5} {b l : Int}, Lnk G H c b l W → W.Pairwise fun u v => u.1 < v.1
  | [], _, _, _ => List.Pairwise.nil
  | v :: W, b, l, h => by
    obtain ⟨h1, h2, h3, h4, h5, _, _, _, _, h6⟩ := h
    exact List.pairwise_cons.mpr ⟨fun u hu => by have := h6.ge u hu; omega, h6.asc⟩
theorem Lnk.out {G H : Int → Int} {c : Int} : ∀ {W : List W5} {b l : Int}, Lnk G H c b l W → ∀ y, b ≤ y → (∀ w ∈ W, w.1 ≠ y) → G y = 0
  | [], _, _, h, y, hy, _ => h.2 y hy
  | v :: W, b, l, h, y, hy, hn => by
    obtain ⟨h1, h2, h3, h4, h5, _, _, _, _, h6⟩ := h
    have := hn v List.mem_cons_self
    by_cases e : y < v.1
    · exact h4 y hy e
    · exact h6.out y (by omega) fun w hw => hn w (List.mem_cons_of_mem _ hw)
theorem Lnk.cnt {G H : Int → Int} {c : Int} : ∀ {W : List W5} {b l : Int}, Lnk G H c b l W → ∀ w ∈ W, w.2.2.1 = G w.1
  | [], _, _, _, w, hw => absurd hw List.not_mem_nil
  | v :: W, b, l, h, w, hw => by
    obtain ⟨h1, _, _, _, _, _, _, _, _, h6⟩ := h
    rcases List.mem_cons.mp hw with e | e
    · rw [e, h1]; rfl
    · exact h6.cnt w e
/-- a step, seen from the right -/
def turnW (w : W5) : W5 := (-w.1, w.2.2.2.1, w.2.2.2.2, w.2.1, w.2.2.1)
def mirW (W : List W5) : List W5 := (W.reverse).map turnW
theorem Lnk.back {G H G' : Int → Int} {c : Int} (c1 : 1 ≤ c) (hH : ∀ y, 1 ≤ H y) : ∀ {W V : List W5} {b l : Int}, Lnk G H c b l W → (∀ w ∈ W, G' (-w.1) = w.2.2.2.2) → (∀ y, b ≤ y → (∀ w ∈ W, w.1 ≠ y) → G' (-y) = 0) → Lnk G' (fun y => H (-y)) c (-b + 1) l V →
    ∃ B, ∀ bb, bb ≤ B → Lnk G' (fun y => H (-y)) c bb 0 (mirW W ++ V)
  | [], V, b, l, h, _, h2, hV => by
    obtain ⟨rfl, h3⟩ := h
    refine ⟨-b + 1, fun bb hb => ?_⟩
    refine hV.lower hb fun y hy hy2 => ?_
    have := h2 (-y) (by omega) fun w hw => absurd hw List.not_mem_nil
    rw [Int.neg_neg] at this
    exact this
  | w :: W, V, b, l, h, h1, h2, hV => by
    obtain ⟨g1, g2, g3, g4, g5, g6, g7, g8, g9, g10⟩ := h
    obtain ⟨q1, q2, q3, q4, q5⟩ := pP_ok (c := c) (b := l) (z := H w.1) (a := G w.1) c1 g6 g7 (hH w.1) g8 g9
    have en : w.2.2.2.1 = pL c l (H w.1) (G w.1) := by rw [g1]; rfl
    have ec : w.2.2.2.2 = pN c l (H w.1) (G w.1) := by rw [g1]; rfl
    have el : w.2.1 = l := by rw [g1]; rfl
    have ea : w.2.2.1 = G w.1 := by rw [g1]; rfl
    obtain ⟨r1, r2⟩ := pP_back (c := c) (b := l) (z := H w.1) (a := G w.1)
    have hw := h1 w List.mem_cons_self
    have up : ∀ v ∈ W, w.1 + 1 ≤ v.1 := g10.ge
    have step : Lnk G' (fun y => H (-y)) c (-(w.1 + 1) + 1) w.2.2.2.1 (turnW w :: V) := by
      refine ⟨?_, by show -(w.1 + 1) + 1 ≤ -w.1; omega, fun _ => by show -w.1 = -(w.1 + 1) + 1; omega, fun y h5 h6 => ?_, ?_, by rw [en]; exact q3, by rw [en]; exact q4, ?_, ?_, ?_⟩
      · unfold turnW stp
        show _ = (-w.1, w.2.2.2.1, G' (-w.1), pL c w.2.2.2.1 (H (- -w.1)) (G' (-w.1)), pN c w.2.2.2.1 (H (- -w.1)) (G' (-w.1)))
        rw [hw, Int.neg_neg, en, ec, r1, r2, el, ea]
      · have h6' : y < -w.1 := h6
        omega
      · show 0 < w.2.2.2.1 ∨ 0 < G' (-w.1)
        rw [hw, en, ec]
        omega
      · show 0 ≤ G' (-w.1); rw [hw, ec]; exact q1
      · show G' (-w.1) ≤ H (- -w.1); rw [hw, ec, Int.neg_neg]; exact q2
      · show Lnk G' (fun y => H (-y)) c (-w.1 + 1) w.2.1 V
        rw [el]
        by_cases hl : 0 < l
        · rw [g3 hl]; exact hV
        · have l0 : l = 0 := by omega
          subst l0
          refine hV.lower (by omega) fun y h5 h6 => ?_
          have := h2 (-y) (by omega) fun v hv => by
            rcases List.mem_cons.mp hv with e | e
            · rw [e]; omega
            · have := up v e; omega
          rw [Int.neg_neg] at this
          exact this
    obtain ⟨B, hB⟩ := Lnk.back c1 hH (V := turnW w :: V) g10 (fun v hv => h1 v (List.mem_cons_of_mem _ hv)) (fun y hy hn => h2 y (by omega) fun v hv => by
      rcases List.mem_cons.mp hv with e | e
      · rw [e]; omega
      · exact hn v e) step
    refine ⟨B, fun bb hb => ?_⟩
    have := hB bb hb
    unfold mirW at this ⊢
    rw [List.reverse_cons, List.map_append, List.append_assoc]
    exact this
/-! ### what stands behind the steps -/
theorem lk_aft_out {s k : Int} : ∀ {W : List W5} {m : PL}, Nk m → (∀ w ∈ W, s * w.1 ≠ k) → lkI (aft s m W) k = lkI m k
  | [], m, _, _ => rfl
  | w :: W, m, hn, h => by
    show lkI (aft s (putI m (s * w.1, w.2.2.2.2)) W) k = _
    rw [lk_aft_out (Nk_put hn) fun v hv => h v (List.mem_cons_of_mem _ hv), lk_put hn, if_neg (h w List.mem_cons_self)]
theorem lk_aft_in {s : Int} (hs : s = 1 ∨ s = -1) : ∀ {W : List W5} {m : PL}, Nk m → (W.Pairwise fun u v => u.1 < v.1) → ∀ w ∈ W, lkI (aft s m W) (s * w.1) = some w.2.2.2.2
  | [], m, _, _, w, hw => absurd hw List.not_mem_nil
  | v :: W, m, hn, ha, w, hw => by
    obtain ⟨h1, h2⟩ := List.pairwise_cons.mp ha
    show lkI (aft s (putI m (s * v.1, v.2.2.2.2)) W) (s * w.1) = _
    rcases List.mem_cons.mp hw with e | e
    · subst e
      rw [lk_aft_out (Nk_put hn) fun u hu z => by
        have := h1 u hu
        have := (sgn_mul hs).mp z
        omega, lk_put hn, if_pos rfl]
    · exact lk_aft_in hs (Nk_put hn) h2 w e
theorem pos_all {m : PL} (h : ∀ p ∈ m, 1 ≤ p.2) : posI m = m := by
  unfold posI
  rw [List.filter_eq_self]
  intro p hp
  have := h p hp
  simp; omega
/-- no more than what stands there counts -/
theorem lk_pos0 {m : PL} {k : Int} (hn : Nk m) (h : ∀ k v, lkI m k = some v → 0 ≤ v) : (lkI (posI m) k).getD 0 = (lkI m k).getD 0 := by
  rw [lk_pos hn]
  cases e : lkI m k with
  | none => rfl
  | some v =>
    have := h k v e
    show (if 0 < v then some v else none).getD 0 = v
    split
    · rfl
    · show (0 : Int) = v; omega
theorem can_ext0 {a b : PL} (ha : Nk a) (hb : Nk b) (h : ∀ k, (lkI a k).getD 0 = (lkI b k).getD 0) : canI (posI a) = canI (posI b) := by
  refine can_ext (Nk_pos ha) (Nk_pos hb) fun k => ?_
  rw [lk_pos ha, lk_pos hb]
  have := h k
  cases e : lkI a k with
  | none =>
    rw [e] at this
    cases e2 : lkI b k with
    | none => rfl
    | some v =>
      rw [e2] at this
      have : (0 : Int) = v := this
      subst this
      rfl
  | some u =>
    rw [e] at this
    cases e2 : lkI b k with
    | none =>
      rw [e2] at this
      have : u = (0 : Int) := this
      subst this
      rfl
    | some v =>
      rw [e2] at this
      have : u = v := this
      rw [this]
theorem walk_lnk {cs ss : PL} {c s : Int} (hs : s = 1 ∨ s = -1) (h : OkR cs ss) (h1 : 1 ≤ c) : Lnk (Gc cs s) (Hc ss s) c ((lft s cs).headD 0) 0 (walkW cs ss c s) := by
  have mz := meas_lft hs h.c.1 (cs := cs) (s := s)
  exact wgo_lnk (n := 100) (WI_start (x := 0) hs h.c h.s h1) (by have := h.c.2.2; have := h.c.len; omega)
theorem head_low {cs ss : PL} {s : Int} (hs : s = 1 ∨ s = -1) (h : OkR cs ss) : ∀ y, y < (lft s cs).headD 0 → Gc cs s y = 0 := fun y hy => by
  have asc := lft_asc hs h.c.1
  have : y ∉ lft s cs := fun z => by
    cases e : lft s cs with
    | nil => rw [e] at z; exact absurd z List.not_mem_nil
    | cons k r =>
      rw [e] at z hy asc
      have hy' : y < k := hy
      rcases List.mem_cons.mp z with e2 | e2
      · omega
      · have := (List.pairwise_cons.mp asc).1 y e2; omega
  unfold Gc
  have e : lkI cs (s * y) = none := lkI_none.mpr fun z => this (mem_lft.mpr ⟨s * y, z, (sgsg hs).symm⟩)
  rw [e]; rfl
theorem neg_or {s : Int} (hs : s = 1 ∨ s = -1) : -s = 1 ∨ -s = -1 := by omega
/-- the counts behind a sweep -/
theorem lk_swp {cs ss : PL} {c s : Int} (hs : s = 1 ∨ s = -1) (h : OkR cs ss) (h1 : 1 ≤ c) (k : Int) : (lkI (swpI cs ss c s) k).getD 0 = (lkI (aft s cs (walkW cs ss c s)) k).getD 0 := by
  obtain ⟨w1, _, _, _⟩ := walk_ok hs h h1
  have wk := wk_aft (s := s) (cp := fun k => (lkI ss k).getD 1) (H := Hc ss s) (fun y => rfl) w1 (ok_wk h.c)
  unfold swpI
  rw [lk_can (Nk_pos wk.1), lk_pos0 wk.1 fun k v e => (wk.2 k v e).1]
theorem walk_back {cs ss : PL} {c s : Int} (hs : s = 1 ∨ s = -1) (h : OkR cs ss) (h1 : 1 ≤ c) : walkW (swpI cs ss c s) ss c (-s) = mirW (walkW cs ss c s) := by
  have L := walk_lnk hs h h1
  have h' := (swp_ok hs h h1).1
  have L' := walk_lnk (neg_or hs) h' h1
  have lo' := head_low (neg_or hs) h'
  have lo := head_low hs h
  have asc := L.asc
  have na : Nk cs := h.c.1
  have gi : ∀ w ∈ walkW cs ss c s, Gc (swpI cs ss c s) (-s) (-w.1) = w.2.2.2.2 := fun w hw => by
    unfold Gc
    rw [show -s * -w.1 = s * w.1 by rw [Int.neg_mul_neg], lk_swp hs h h1, lk_aft_in hs na asc w hw]
    rfl
  have go : ∀ y, (∀ w ∈ walkW cs ss c s, w.1 ≠ y) → Gc (swpI cs ss c s) (-s) (-y) = Gc cs s y := fun y hn => by
    unfold Gc
    rw [show -s * -y = s * y by rw [Int.neg_mul_neg], lk_swp hs h h1, lk_aft_out na fun w hw z => hn w hw ((sgn_mul hs).mp z)]
  have hz : ∀ y, (∀ w ∈ walkW cs ss c s, w.1 ≠ y) → Gc cs s y = 0 := fun y hn => by
    by_cases hy : (lft s cs).headD 0 ≤ y
    · exact L.out y hy hn
    · exact lo y (by omega)
  have hHe : Hc ss (-s) = fun y => Hc ss s (-y) := by
    funext y
    unfold Hc
    rw [show -s * y = s * -y by rw [Int.neg_mul, Int.mul_neg]]
  obtain ⟨B, hB⟩ := Lnk.back (G' := Gc (swpI cs ss c s) (-s)) (V := []) h1 (fun y => (cap_pos h.s (s * y)).1) L gi (fun y _ hn => by rw [go y hn]; exact hz y hn) ⟨rfl, fun y hy => by
    have e := go (-y) fun w hw z => by have := L.ge w hw; omega
    rw [Int.neg_neg] at e
    rw [e]
    exact lo _ (by omega)⟩
  rw [List.append_nil] at hB
  rw [hHe] at L'
  have m1 : min B ((lft (-s) (swpI cs ss c s)).headD 0) ≤ (lft (-s) (swpI cs ss c s)).headD 0 := Int.min_le_right _ _
  exact (L'.lower m1 fun y _ hy => lo' y hy).uniq (hB _ (Int.min_le_left _ _))
/-- GUARANTEE (a): the inverse sweep leads back -/
theorem swp_back {cs ss : PL} {c s : Int} (hs : s = 1 ∨ s = -1) (h : OkR cs ss) (h1 : 1 ≤ c) : swpI (swpI cs ss c s) ss c (-s) = cs := by
  have L := walk_lnk hs h h1
  have h' := (swp_ok hs h h1).1
  have wb := walk_back hs h h1
  have L' := walk_lnk (neg_or hs) h' h1
  have asc' := L'.asc
  have e0 : canI (posI cs) = cs := by rw [pos_all fun p hp => (h.c.2.1 p hp).1, can_of_asc h.ca]
  unfold swpI at wb ⊢
  rw [show canI (posI (aft s cs (walkW cs ss c s))) = swpI cs ss c s from rfl] at wb ⊢
  conv => rhs; rw [← e0]
  refine can_ext0 (Nk_aft h'.c.1) h.c.1 fun k => ?_
  by_cases hk : ∃ w ∈ walkW cs ss c s, s * w.1 = k
  · obtain ⟨w, hw, rfl⟩ := hk
    have hm : turnW w ∈ walkW (swpI cs ss c s) ss c (-s) := by
      rw [wb]
      unfold mirW
      exact List.mem_map.mpr ⟨w, List.mem_reverse.mpr hw, rfl⟩
    have e := lk_aft_in (neg_or hs) h'.c.1 asc' (turnW w) hm
    have e2 : -s * (turnW w).1 = s * w.1 := by show -s * -w.1 = _; rw [Int.neg_mul_neg]
    rw [e2] at e
    rw [e]
    show w.2.2.1 = _
    rw [L.cnt w hw]
    rfl
  · have hn : ∀ w ∈ walkW cs ss c s, s * w.1 ≠ k := fun w hw z => hk ⟨w, hw, z⟩
    rw [lk_aft_out h'.c.1 fun v hv z => by
      rw [wb] at hv
      unfold mirW at hv
      obtain ⟨w, hw, rfl⟩ := List.mem_map.mp hv
      have e2 : -s * (turnW w).1 = s * w.1 := by show -s * -w.1 = _; rw [Int.neg_mul_neg]
      rw [e2] at z
      exact hn w (List.mem_reverse.mp hw) z, lk_swp hs h h1, lk_aft_out h.c.1 hn]
end DL
set_option Elab.async false
set_option linter.all false
set_option maxRecDepth 100000
set_option maxHeartbeats 400000
/-! DRl: inverse sweeps; rows turned round. -/
namespace DL
open PySem L2
theorem unswept_ok {cs ss : PL} {c : Int} (h : OkR cs ss) (h1 : 1 ≤ c) (h2 : c ≤ 99) : f_unsweep [rowD cs ss, .int c] = .ok (rowD (swpI cs ss c (-1)) ss) [rowD cs ss, .int c] := by
  have n0 := need_ok h1 h2
  have st := steps_ok (.inr rfl) h.c h.s h1
  obtain ⟨w1, _, _, _⟩ := walk_ok (.inr rfl) h h1
  have wl := walk_len (.inr rfl) h h1
  have ra := row_after_ok (o := true) h (part_ok (.inr rfl) h w1).1 (by have := h.c.len; omega)
  unfold f_unsweep b_unsweep swpI
  simp [n0, st, ra]
/-- the boxes turned round -/
def mirP (m : PL) : PL := m.map fun p => (-p.1, p.2)
theorem lk_mir : ∀ {m : PL} {k : Int}, lkI (mirP m) k = lkI m (-k)
  | [], k => rfl
  | p :: m, k => by
    show lkI ((-p.1, p.2) :: mirP m) k = _
    unfold lkI
    rw [lk_mir]
    by_cases h : p.1 = -k
    · rw [if_pos h, if_pos (by show -p.1 = k; omega)]
    · rw [if_neg h, if_neg (by show ¬ -p.1 = k; omega)]
theorem Nk_mir {m : PL} (h : Nk m) : Nk (mirP m) := by
  unfold Nk keysI mirP List.Nodup at *
  rw [List.map_map]
  rw [List.pairwise_map] at *
  exact h.imp fun h e => h (by
    have e' : -_ = -_ := e
    omega)
theorem mir_mir (m : PL) : mirP (mirP m) = m := by
  unfold mirP
  rw [List.map_map]
  have : ((fun p : Int × Int => (-p.1, p.2)) ∘ fun p : Int × Int => (-p.1, p.2)) = id := by
    funext p
    show (- -p.1, p.2) = p
    rw [Int.neg_neg]
  rw [this, List.map_id]
theorem mir_putR : ∀ {m : PL} {k v : Int}, mirP (putR m (k, v)) = putR (mirP m) (-k, v)
  | [], k, v => rfl
  | p :: m, k, v => by
    have ih := mir_putR (m := m) (k := k) (v := v)
    show mirP (if p.1 = k then (p.1, v) :: m else p :: putR m (k, v)) = if -p.1 = -k then (-p.1, v) :: mirP m else (-p.1, p.2) :: putR (mirP m) (-k, v)
    by_cases h : p.1 = k
    · rw [if_pos h, if_pos (by omega)]; rfl
    · rw [if_neg h, if_neg (by omega)]
      show (-p.1, p.2) :: mirP (putR m (k, v)) = _
      rw [ih]
theorem mir_aft : ∀ {W : List W5} {m : PL}, Nk m → aft 1 (mirP m) W = mirP (aft (-1) m W)
  | [], m, _ => rfl
  | w :: W, m, hn => by
    show aft 1 (putI (mirP m) (1 * w.1, w.2.2.2.2)) W = mirP (aft (-1) (putI m (-1 * w.1, w.2.2.2.2)) W)
    rw [← mir_aft (Nk_put hn), putI_R hn, mir_putR, putI_R (Nk_mir hn)]
    congr 3
    omega
theorem mir_pos {m : PL} : posI (mirP m) = mirP (posI m) := by
  unfold posI mirP
  rw [List.filter_map]
  rfl
theorem mir_walk {cs ss : PL} {c : Int} : walkW (mirP cs) (mirP ss) c 1 = walkW cs ss c (-1) := by
  have g : Gc (mirP cs) 1 = Gc cs (-1) := by
    funext y
    unfold Gc
    rw [lk_mir, show -(1 * y) = -1 * y by omega]
  have h : Hc (mirP ss) 1 = Hc ss (-1) := by
    funext y
    unfold Hc
    rw [lk_mir, show -(1 * y) = -1 * y by omega]
  have l : lft 1 (mirP cs) = lft (-1) cs := by
    unfold lft sgK mirP
    rw [List.map_map]
    congr 1
    refine List.map_congr_left fun p _ => ?_
    show 1 * -p.1 = -1 * p.1
    omega
  unfold walkW
  rw [g, h, l]
theorem okS_mir {ss : PL} (h : OkS ss) : OkS (mirP ss) := ⟨Nk_mir h.1, by unfold mirP; rw [List.length_map]; exact h.2.1, fun p hp => by
  obtain ⟨q, hq, rfl⟩ := List.mem_map.mp hp
  have := h.2.2 q hq
  show -60 ≤ -q.1 ∧ -q.1 ≤ 60 ∧ 2 ≤ q.2 ∧ q.2 ≤ 9
  omega⟩
theorem tot_mir {m : PL} : totI (mirP m) = totI m := by
  unfold totI mirP
  rw [List.map_map]
  rfl
theorem okC_mir {cs ss : PL} (h : OkC cs ss) : OkC (mirP cs) (mirP ss) := ⟨Nk_mir h.1, fun p hp => by
  obtain ⟨q, hq, rfl⟩ := List.mem_map.mp hp
  rw [lk_mir]
  show 1 ≤ q.2 ∧ q.2 ≤ (lkI ss (- -q.1)).getD 1
  rw [Int.neg_neg]
  exact h.2.1 q hq, by rw [tot_mir]; exact h.2.2⟩
theorem turned_ok {m : PL} {o : Bool} (hn : Nk m) (hl : m.length ≤ 4000) : f__law_turned [.dct o (kI m) (vI m)] = .ok (.dct true (kI (mirP m)) (vI (mirP m))) [.dct false (kI m) (vI m)] := by
  have hs : m.length < sizeLine := by rw [sizeLine_eq]; omega
  have kk := keys_I (m := m)
  have cm : c__law_turned_1 [.dct o (kI m) (vI m), .un] = .ok (.lst true (pI (mirP m))) [.dct false (kI m) (vI m), .un] := by
    have e : pI (mirP m) = m.map fun p => .tup [.int (-p.1), .int p.2] := by unfold pI mirP; rw [List.map_map]; rfl
    have e2 : (keysI m).map D.int = m.map fun p => .int p.1 := by unfold keysI; rw [List.map_map]; rfl
    unfold c__law_turned_1
    rw [e]
    refine dLc_ok (ks := [.dct false (kI m) (vI m)]) (xs := (keysI m).map .int) (env1 := [.dct false (kI m) (vI m), .un]) (env3 := [.dct false (kI m) (vI m), .un]) (by cases o <;> simp [kk]) rfl ?_ rfl
    rw [e2]
    refine comp_all (fun p : Int × Int => D.int p.1) (fun p => .tup [.int (-p.1), .int p.2]) m (fun p hp => ⟨[.dct false (kI m) (vI m), .int p.1], [.dct false (kI m) (vI m), .int p.1], rfl, ?_, rfl⟩) hs
    have g := fGet_I (o := false) ((lk_mem (k := p.1) (v := p.2) hn).mpr hp)
    simp [g, sizeLine_eq]
  have da := dictA_l (o := true) (Nk_mir hn)
  unfold f__law_turned b__law_turned
  cases o <;> simp [cm, da]
theorem back_ok {cs ss : PL} {o p : Bool} {c : Int} (h : OkR cs ss) (h1 : 1 ≤ c) (hl : cs.length + (walkW cs ss c (-1)).length < 64) :
    ∃ b, f__law_back [.dct o (kI cs) (vI cs), .dct p (kI ss) (vI ss), .int c] = .ok (.dct true (kI b) (vI b)) [.dct false (kI cs) (vI cs), .dct false (kI ss) (vI ss), .int c] ∧ Nk b ∧ canI b = swpI cs ss c (-1) ∧ b.length < 64 := by
  have t1 := turned_ok (o := o) h.c.1 (by omega)
  have t2 := turned_ok (o := p) h.s.1 (by have := h.s.2.1; omega)
  have lm : (mirP cs).length = cs.length := by unfold mirP; rw [List.length_map]
  have ls := lswept_ok (o := true) (p := true) (okC_mir h.c) (okS_mir h.s) h1 (by rw [mir_walk, lm]; exact hl)
  have na : Nk (aft (-1) cs (walkW cs ss c (-1))) := Nk_aft h.c.1
  have e : swpI (mirP cs) (mirP ss) c 1 = canI (mirP (posI (aft (-1) cs (walkW cs ss c (-1))))) := by
    unfold swpI
    rw [mir_walk, mir_aft h.c.1, mir_pos]
  have nm : Nk (mirP (posI (aft (-1) cs (walkW cs ss c (-1))))) := Nk_mir (Nk_pos na)
  have t3 := turned_ok (m := swpI (mirP cs) (mirP ss) c 1) (o := true) (by rw [e]; exact Nk_can nm) (by
    rw [e, (can_perm _).length_eq]
    unfold mirP
    rw [List.length_map]
    have := len_aft (s := -1) (W := walkW cs ss c (-1)) h.c.1
    have : (posI (aft (-1) cs (walkW cs ss c (-1)))).length ≤ (aft (-1) cs (walkW cs ss c (-1))).length := List.length_filter_le _ _
    omega)
  refine ⟨mirP (swpI (mirP cs) (mirP ss) c 1), ?_, ?_, ?_, ?_⟩
  · unfold f__law_back b__law_back
    cases o <;> cases p <;> simp [t1, t2, ls, t3]
  · rw [e]; exact Nk_mir (Nk_can nm)
  · rw [e]
    unfold swpI
    refine can_ext (Nk_mir (Nk_can nm)) (Nk_pos na) fun k => ?_
    rw [lk_mir, lk_can nm, lk_mir, Int.neg_neg]
  · rw [e]
    unfold mirP
    rw [List.length_map, (can_perm _).length_eq, List.length_map]
    have := len_aft (s := -1) (W := walkW cs ss c (-1)) h.c.1
    have : (posI (aft (-1) cs (walkW cs ss c (-1)))).length ≤ (aft (-1) cs (walkW cs ss c (-1))).length := List.length_filter_le _ _
    omega
end DL
set_option Elab.async false
set_option linter.all false
set_option maxRecDepth 100000
set_option maxHeartbeats 4000000
/-! DRm: sweeps commute. -/
namespace DL.Y
def P (c n d m : Int) : Int := m - (if m < c - n then m else c - n) + (if d - m < n then d - m else n)
def Q (c n d m : Int) : Int := n + (if m < c - n then m else c - n) - (if d - m < n then d - m else n)
def U (c n d m : Int) : Int := if m < c - n then m else c - n
def Ok (c n : Int) : Prop := 1 ≤ c ∧ c ≤ 99 ∧ 0 ≤ n ∧ n ≤ c
/-- one passing: the four cases -/
def T (c n d m p q u : Int) : Prop := (n + m < c ∧ n + m ≤ d ∧ p = n ∧ q = m ∧ u = m) ∨ (n + m < c ∧ d < n + m ∧ p = d - m ∧ q = n + m + m - d ∧ u = m) ∨
  (c ≤ n + m ∧ n + m ≤ d ∧ p = m + n + n - c ∧ q = c - n ∧ u = c - n) ∨ (c ≤ n + m ∧ d < n + m ∧ p = n + d - c ∧ q = c + m - d ∧ u = c - n)
theorem t_ok (c n d m : Int) : T c n d m (P c n d m) (Q c n d m) (U c n d m) := by
  unfold T P Q U
  by_cases h1 : m < c - n
  · rw [if_pos h1]
    by_cases h2 : d - m < n
    · rw [if_pos h2]; exact .inr (.inl ⟨by omega, by omega, by omega, by omega, rfl⟩)
    · rw [if_neg h2]; exact .inl ⟨by omega, by omega, by omega, by omega, rfl⟩
  · rw [if_neg h1]
    by_cases h2 : d - m < n
    · rw [if_pos h2]; exact .inr (.inr (.inr ⟨by omega, by omega, by omega, by omega, rfl⟩))
    · rw [if_neg h2]; exact .inr (.inr (.inl ⟨by omega, by omega, by omega, by omega, rfl⟩))
theorem core {a x b y c z p1 q1 u1 p2 q2 u2 p3 q3 u3 r1 s1 w1 r2 s2 w2 r3 s3 w3 : Int} (ax : 0 ≤ x ∧ x ≤ a) (bx : 0 ≤ y ∧ y ≤ b) (cx : 0 ≤ z ∧ z ≤ c)
    (h1 : T a x b y p1 q1 u1) (h2 : T a q1 c z p2 q2 u2) (h3 : T b p1 c p2 p3 q3 u3) (g1 : T b y c z r1 s1 w1) (g2 : T a x c r1 r2 s2 w2) (g3 : T a s2 b s1 r3 s3 w3) :
    p3 = r2 ∧ q3 = r3 ∧ q2 = s3 ∧ u2 + u3 = w1 + w2 ∧ u1 - u3 = w3 - w1 ∧ u1 + u2 = w2 + w3 := by
  unfold T at *
  rcases h1 with ⟨_, _, e1, e2, e3⟩ | ⟨_, _, e1, e2, e3⟩ | ⟨_, _, e1, e2, e3⟩ | ⟨_, _, e1, e2, e3⟩ <;> subst e1 <;> subst e2 <;> subst e3 <;>
  (rcases h2 with ⟨_, _, e1, e2, e3⟩ | ⟨_, _, e1, e2, e3⟩ | ⟨_, _, e1, e2, e3⟩ | ⟨_, _, e1, e2, e3⟩ <;> subst e1 <;> subst e2 <;> subst e3) <;>
  (first
    | (exfalso; omega)
    | ((rcases g1 with ⟨_, _, e1, e2, e3⟩ | ⟨_, _, e1, e2, e3⟩ | ⟨_, _, e1, e2, e3⟩ | ⟨_, _, e1, e2, e3⟩ <;> subst e1 <;> subst e2 <;> subst e3) <;>
      (first
        | (exfalso; omega)
        | ((rcases h3 with ⟨_, _, e1, e2, e3⟩ | ⟨_, _, e1, e2, e3⟩ | ⟨_, _, e1, e2, e3⟩ | ⟨_, _, e1, e2, e3⟩ <;> subst e1 <;> subst e2 <;> subst e3) <;>
          (first
            | (clear g2 g3; exfalso; omega)
            | ((rcases g2 with ⟨_, _, e1, e2, e3⟩ | ⟨_, _, e1, e2, e3⟩ | ⟨_, _, e1, e2, e3⟩ | ⟨_, _, e1, e2, e3⟩ <;> subst e1 <;> subst e2 <;> subst e3) <;>
              (first
                | (clear g3; exfalso; omega)
                | ((rcases g3 with ⟨_, _, e1, e2, e3⟩ | ⟨_, _, e1, e2, e3⟩ | ⟨_, _, e1, e2, e3⟩ | ⟨_, _, e1, e2, e3⟩ <;> subst e1 <;> subst e2 <;> subst e3) <;>
                  (refine ⟨?_, ?_, ?_, ?_, ?_, ?_⟩ <;> omega)))))))))
theorem ybe {a x b y c z : Int} (h : Ok a x) (h2 : Ok b y) (h3 : Ok c z) : P b (P a x b y) c (P a (Q a x b y) c z) = P a x c (P b y c z) ∧ Q b (P a x b y) c (P a (Q a x b y) c z) = P a (Q a x c (P b y c z)) b (Q b y c z) ∧
    Q a (Q a x b y) c z = Q a (Q a x c (P b y c z)) b (Q b y c z) ∧ U a (Q a x b y) c z + U b (P a x b y) c (P a (Q a x b y) c z) = U b y c z + U a x c (P b y c z) ∧
    U a x b y - U b (P a x b y) c (P a (Q a x b y) c z) = U a (Q a x c (P b y c z)) b (Q b y c z) - U b y c z ∧ U a x b y + U a (Q a x b y) c z = U a x c (P b y c z) + U a (Q a x c (P b y c z)) b (Q b y c z) :=
  core (a := a) (x := x) (b := b) (y := y) (c := c) (z := z) ⟨h.2.2.1, h.2.2.2⟩ ⟨h2.2.2.1, h2.2.2.2⟩ ⟨h3.2.2.1, h3.2.2.2⟩ (t_ok a x b y) (t_ok a (Q a x b y) c z) (t_ok b (P a x b y) c (P a (Q a x b y) c z)) (t_ok b y c z) (t_ok a x c (P b y c z)) (t_ok a (Q a x c (P b y c z)) b (Q b y c z))
theorem ybe1 {a x b y c z : Int} (h : Ok a x) (h2 : Ok b y) (h3 : Ok c z) : P b (P a x b y) c (P a (Q a x b y) c z) = P a x c (P b y c z) := (ybe h h2 h3).1
theorem ybe2 {a x b y c z : Int} (h : Ok a x) (h2 : Ok b y) (h3 : Ok c z) : Q b (P a x b y) c (P a (Q a x b y) c z) = P a (Q a x c (P b y c z)) b (Q b y c z) := (ybe h h2 h3).2.1
theorem ybe3 {a x b y c z : Int} (h : Ok a x) (h2 : Ok b y) (h3 : Ok c z) : Q a (Q a x b y) c z = Q a (Q a x c (P b y c z)) b (Q b y c z) := (ybe h h2 h3).2.2.1
theorem ybe4 {a x b y c z : Int} (h : Ok a x) (h2 : Ok b y) (h3 : Ok c z) : U a (Q a x b y) c z + U b (P a x b y) c (P a (Q a x b y) c z) = U b y c z + U a x c (P b y c z) := (ybe h h2 h3).2.2.2.1
theorem ybe5 {a x b y c z : Int} (h : Ok a x) (h2 : Ok b y) (h3 : Ok c z) : U a x b y - U b (P a x b y) c (P a (Q a x b y) c z) = U a (Q a x c (P b y c z)) b (Q b y c z) - U b y c z := (ybe h h2 h3).2.2.2.2.1
theorem ybe6 {a x b y c z : Int} (h : Ok a x) (h2 : Ok b y) (h3 : Ok c z) : U a x b y + U a (Q a x b y) c z = U a x c (P b y c z) + U a (Q a x c (P b y c z)) b (Q b y c z) := (ybe h h2 h3).2.2.2.2.2
theorem pN_P (c b z a : Int) : pN c b z a = P c b z a := rfl
theorem pL_Q (c b z a : Int) : pL c b z a = Q c b z a := rfl
end DL.Y
namespace DL
/-- the load before the i-th box, all boxes counted -/
def ldn (G H : Int → Int) (c A : Int) : Nat → Int
  | 0 => 0
  | i + 1 => pL c (ldn G H c A i) (H (A + i)) (G (A + i))
theorem Lnk.mem_load {G H : Int → Int} {c A : Int} (c1 : 1 ≤ c) (hH : ∀ y, 1 ≤ H y) : ∀ {W : List W5} {b l : Int} {j : Nat}, Lnk G H c b l W → (b = A + j) → l = ldn G H c A j →
    ∀ i : Nat, j ≤ i → (∀ w ∈ W, w.1 = A + i → w.2.1 = ldn G H c A i ∧ w.2.2.2.2 = pN c (ldn G H c A i) (H (A + i)) (G (A + i))) ∧ ((∀ w ∈ W, w.1 ≠ A + i) → ldn G H c A i = 0 ∧ G (A + i) = 0)
  | [], b, l, j, h, hb, hl, i, hi => by
    refine ⟨fun w hw => absurd hw List.not_mem_nil, fun _ => ?_⟩
    obtain ⟨h1, h2⟩ := h
    have go : ∀ k : Nat, ldn G H c A (j + k) = 0 := by
      intro k
      induction k with
      | zero => show ldn G H c A j = 0; rw [← hl, h1]
      | succ k ih =>
        show pL c (ldn G H c A (j + k)) (H (A + (j + k : Nat))) (G (A + (j + k : Nat))) = 0
        rw [ih, h2 (A + (j + k : Nat)) (by push_cast; omega)]
        have := hH (A + (j + k : Nat))
        unfold pL upP dnP
        split <;> split <;> omega
    have e : i = j + (i - j) := by omega
    exact ⟨by rw [e]; exact go _, h2 _ (by omega)⟩
  | w :: W, b, l, j, h, hb, hl, i, hi => by
    obtain ⟨g1, g2, g3, g4, g5, g6, g7, g8, g9, g10⟩ := h
    -- the place of w
    obtain ⟨k, hk⟩ : ∃ k : Nat, w.1 = A + ((j + k : Nat) : Int) := ⟨(w.1 - b).toNat, by push_cast; omega⟩
    have before : ∀ q : Nat, q ≤ k → ldn G H c A (j + q) = l := by
      intro q
      induction q with
      | zero => intro _; exact hl.symm
      | succ q ih =>
        intro hq
        have l0 : l = 0 := by
          by_cases hz : 0 < l
          · have := g3 hz; omega
          · omega
        have z := g4 (A + (j + q : Nat)) (by push_cast; omega) (by push_cast at hk ⊢; omega)
        show pL c (ldn G H c A (j + q)) (H (A + (j + q : Nat))) (G (A + (j + q : Nat))) = l
        rw [ih (by omega), z, l0]
        have := hH (A + (j + q : Nat))
        unfold pL upP dnP
        split <;> split <;> omega
    have at0 := before k (Nat.le_refl _)
    have nl : w.2.2.2.1 = ldn G H c A (j + k + 1) := by
      show _ = pL c (ldn G H c A (j + k)) (H (A + (j + k : Nat))) (G (A + (j + k : Nat)))
      rw [at0, ← hk]
      conv => lhs; rw [g1]
      rfl
    have rest := Lnk.mem_load (A := A) c1 hH (j := j + k + 1) g10 (by push_cast at hk ⊢; omega) nl
    by_cases hlt : i < j + k
    · -- before w
      have ei : i = j + (i - j) := by omega
      have l1 := before (i - j) (by omega)
      rw [← ei] at l1
      refine ⟨fun v hv hv1 => ?_, fun _ => ?_⟩
      · rcases List.mem_cons.mp hv with e | e
        · rw [e] at hv1; push_cast at hk; omega
        · have := g10.ge v e; push_cast at hk; omega
      · have l0 : l = 0 := by
          by_cases hz : 0 < l
          · have := g3 hz; push_cast at hk; omega
          · omega
        exact ⟨by rw [l1, l0], g4 _ (by omega) (by push_cast at hk; omega)⟩
    · by_cases heq : i = j + k
      · subst heq
        refine ⟨fun v hv hv1 => ?_, fun hn => absurd hk (hn w List.mem_cons_self)⟩
        rcases List.mem_cons.mp hv with e | e
        · rw [e, at0, ← hk]
          refine ⟨?_, ?_⟩
          · conv => lhs; rw [g1]
            rfl
          · conv => lhs; rw [g1]
            rfl
        · have := g10.ge v e; push_cast at hk hv1; omega
      · obtain ⟨r1, r2⟩ := rest i (by omega)
        refine ⟨fun v hv hv1 => ?_, fun hn => r2 fun v hv => hn v (List.mem_cons_of_mem _ hv)⟩
        rcases List.mem_cons.mp hv with e | e
        · rw [e] at hv1; push_cast at hk; omega
        · exact r1 v e hv1
/-- the counts behind a sweep, box by box -/
theorem swp_dense {cs ss : PL} {c A : Int} (h : OkR cs ss) (h1 : 1 ≤ c) (hA : A ≤ (lft 1 cs).headD 0) (i : Nat) :
    Gc (swpI cs ss c 1) 1 (A + i) = pN c (ldn (Gc cs 1) (Hc ss 1) c A i) (Hc ss 1 (A + i)) (Gc cs 1 (A + i)) := by
  have L := (walk_lnk (.inl rfl) h h1).lower hA fun y _ hy => head_low (.inl rfl) h y hy
  have hH : ∀ y, 1 ≤ Hc ss 1 y := fun y => (cap_pos h.s (1 * y)).1
  obtain ⟨m1, m2⟩ := L.mem_load (A := A) h1 hH (j := 0) (by simp) rfl i (Nat.zero_le _)
  have e0 : Gc (swpI cs ss c 1) 1 (A + i) = (lkI (aft 1 cs (walkW cs ss c 1)) (1 * (A + i))).getD 0 := lk_swp (.inl rfl) h h1 _
  rw [e0]
  by_cases hw : ∃ w ∈ walkW cs ss c 1, w.1 = A + i
  · obtain ⟨w, hw, e⟩ := hw
    have := lk_aft_in (.inl rfl) h.c.1 L.asc w hw
    rw [e] at this
    rw [this]
    exact (m1 w hw e).2
  · obtain ⟨z1, z2⟩ := m2 fun w hw' e => hw ⟨w, hw', e⟩
    rw [lk_aft_out h.c.1 fun w hw' e => hw ⟨w, hw', by omega⟩, z1, z2]
    have : (lkI cs (1 * (A + i))).getD 0 = 0 := z2
    rw [this]
    have := hH (A + i)
    unfold pN upP dnP
    split <;> split <;> omega
theorem ldn_ok {cs ss : PL} {c A : Int} (h : OkR cs ss) (h1 : 1 ≤ c) : ∀ i : Nat, 0 ≤ ldn (Gc cs 1) (Hc ss 1) c A i ∧ ldn (Gc cs 1) (Hc ss 1) c A i ≤ c
  | 0 => ⟨Int.le_refl _, by show (0 : Int) ≤ c; omega⟩
  | i + 1 => by
    obtain ⟨a1, a2⟩ := ldn_ok h h1 (A := A) i
    have g : 0 ≤ Gc cs 1 (A + i) ∧ Gc cs 1 (A + i) ≤ Hc ss 1 (A + i) := by
      unfold Gc Hc
      have cp := cap_pos h.s (1 * (A + i))
      cases e : lkI cs (1 * (A + i)) with
      | none => exact ⟨by show (0 : Int) ≤ 0; omega, by show (0 : Int) ≤ _; omega⟩
      | some v =>
        have := h.c.2.1 _ ((lk_mem h.c.1).mp e)
        exact ⟨by show 0 ≤ v; have := this.1; omega, this.2⟩
    obtain ⟨q1, q2, q3, q4, q5⟩ := pP_ok (c := c) (b := ldn (Gc cs 1) (Hc ss 1) c A i) (z := Hc ss 1 (A + i)) (a := Gc cs 1 (A + i)) h1 a1 a2 (cap_pos h.s _).1 g.1 g.2
    exact ⟨q3, q4⟩
theorem gc_ok {cs ss : PL} (h : OkR cs ss) (y : Int) : 0 ≤ Gc cs 1 y ∧ Gc cs 1 y ≤ Hc ss 1 y := by
  unfold Gc Hc
  have cp := cap_pos h.s (1 * y)
  cases e : lkI cs (1 * y) with
  | none => exact ⟨by show (0 : Int) ≤ 0; omega, by show (0 : Int) ≤ _; omega⟩
  | some v =>
    have := h.c.2.1 _ ((lk_mem h.c.1).mp e)
    exact ⟨by show 0 ≤ v; have := this.1; omega, this.2⟩
/-- GUARANTEE (a): in whatever order -/
theorem swp_comm {cs ss : PL} {c d : Int} (h : OkR cs ss) (c1 : 1 ≤ c) (c2 : c ≤ 99) (d1 : 1 ≤ d) (d2 : d ≤ 99) : swpI (swpI cs ss c 1) ss d 1 = swpI (swpI cs ss d 1) ss c 1 := by
  have hc := (swp_ok (.inl rfl) h c1).1
  have hd := (swp_ok (.inl rfl) h d1).1
  have hcd := (swp_ok (.inl rfl) hc d1).1
  have hdc := (swp_ok (.inl rfl) hd c1).1
  obtain ⟨A, A0, A1, A2, A3, A4⟩ : ∃ A : Int, A ≤ (lft 1 cs).headD 0 ∧ A ≤ (lft 1 (swpI cs ss c 1)).headD 0 ∧ A ≤ (lft 1 (swpI cs ss d 1)).headD 0 ∧ A ≤ (lft 1 (swpI (swpI cs ss c 1) ss d 1)).headD 0 ∧ A ≤ (lft 1 (swpI (swpI cs ss d 1) ss c 1)).headD 0 :=
    ⟨min (min (min (min ((lft 1 cs).headD 0) ((lft 1 (swpI cs ss c 1)).headD 0)) ((lft 1 (swpI cs ss d 1)).headD 0)) ((lft 1 (swpI (swpI cs ss c 1) ss d 1)).headD 0)) ((lft 1 (swpI (swpI cs ss d 1) ss c 1)).headD 0), by omega, by omega, by omega, by omega, by omega⟩
  have key : ∀ i : Nat, ldn (Gc cs 1) (Hc ss 1) c A i = pL c (ldn (Gc (swpI cs ss d 1) 1) (Hc ss 1) c A i) d (ldn (Gc cs 1) (Hc ss 1) d A i) ∧
      ldn (Gc (swpI cs ss c 1) 1) (Hc ss 1) d A i = pN c (ldn (Gc (swpI cs ss d 1) 1) (Hc ss 1) c A i) d (ldn (Gc cs 1) (Hc ss 1) d A i) := by
    intro i
    induction i with
    | zero =>
      show (0 : Int) = pL c 0 d 0 ∧ (0 : Int) = pN c 0 d 0
      unfold pL pN upP dnP
      constructor <;> (split <;> split <;> omega)
    | succ i ih =>
      obtain ⟨i1, i2⟩ := ih
      obtain ⟨x1, x2⟩ := ldn_ok (A := A) hd c1 i
      obtain ⟨y1, y2⟩ := ldn_ok (A := A) h d1 i
      have z1 := gc_ok h (A + i)
      have zc := cap_pos h.s (1 * (A + i))
      have G1 := swp_dense h c1 A0 i
      have G2 := swp_dense h d1 A0 i
      have okx : Y.Ok c (ldn (Gc (swpI cs ss d 1) 1) (Hc ss 1) c A i) := ⟨c1, c2, x1, x2⟩
      have oky : Y.Ok d (ldn (Gc cs 1) (Hc ss 1) d A i) := ⟨d1, d2, y1, y2⟩
      have okz : Y.Ok (Hc ss 1 (A + i)) (Gc cs 1 (A + i)) := ⟨zc.1, by have := zc.2; show Hc ss 1 (A + i) ≤ 99; unfold Hc; omega, z1.1, z1.2⟩
      have e2 := Y.ybe2 okx oky okz
      have e3 := Y.ybe3 okx oky okz
      refine ⟨?_, ?_⟩
      · show pL c (ldn (Gc cs 1) (Hc ss 1) c A i) (Hc ss 1 (A + i)) (Gc cs 1 (A + i)) = pL c (pL c (ldn (Gc (swpI cs ss d 1) 1) (Hc ss 1) c A i) (Hc ss 1 (A + i)) (Gc (swpI cs ss d 1) 1 (A + i))) d (pL d (ldn (Gc cs 1) (Hc ss 1) d A i) (Hc ss 1 (A + i)) (Gc cs 1 (A + i)))
        rw [G2, i1]
        exact e3
      · show pL d (ldn (Gc (swpI cs ss c 1) 1) (Hc ss 1) d A i) (Hc ss 1 (A + i)) (Gc (swpI cs ss c 1) 1 (A + i)) = pN c (pL c (ldn (Gc (swpI cs ss d 1) 1) (Hc ss 1) c A i) (Hc ss 1 (A + i)) (Gc (swpI cs ss d 1) 1 (A + i))) d (pL d (ldn (Gc cs 1) (Hc ss 1) d A i) (Hc ss 1 (A + i)) (Gc cs 1 (A + i)))
        rw [G1, G2, i2, i1]
        exact e2
  have cnt : ∀ y, Gc (swpI (swpI cs ss c 1) ss d 1) 1 y = Gc (swpI (swpI cs ss d 1) ss c 1) 1 y := by
    intro y
    by_cases hy : A ≤ y
    · obtain ⟨i, hi⟩ : ∃ i : Nat, y = A + i := ⟨(y - A).toNat, by omega⟩
      subst hi
      obtain ⟨i1, i2⟩ := key i
      obtain ⟨x1, x2⟩ := ldn_ok (A := A) hd c1 i
      obtain ⟨y1, y2⟩ := ldn_ok (A := A) h d1 i
      have z1 := gc_ok h (A + i)
      have zc := cap_pos h.s (1 * (A + i))
      have G1 := swp_dense h c1 A0 i
      have G2 := swp_dense h d1 A0 i
      have G12 := swp_dense hc d1 A1 i
      have G21 := swp_dense hd c1 A2 i
      have okx : Y.Ok c (ldn (Gc (swpI cs ss d 1) 1) (Hc ss 1) c A i) := ⟨c1, c2, x1, x2⟩
      have oky : Y.Ok d (ldn (Gc cs 1) (Hc ss 1) d A i) := ⟨d1, d2, y1, y2⟩
      have okz : Y.Ok (Hc ss 1 (A + i)) (Gc cs 1 (A + i)) := ⟨zc.1, by have := zc.2; show Hc ss 1 (A + i) ≤ 99; unfold Hc; omega, z1.1, z1.2⟩
      have e1 := Y.ybe1 okx oky okz
      rw [G12, G21, G1, G2, i2, i1]
      exact e1
    · rw [head_low (.inl rfl) hcd y (by omega), head_low (.inl rfl) hdc y (by omega)]
  have ea : canI (posI (swpI (swpI cs ss c 1) ss d 1)) = swpI (swpI cs ss c 1) ss d 1 := by rw [pos_all fun p hp => (hcd.c.2.1 p hp).1, can_of_asc hcd.ca]
  have eb : canI (posI (swpI (swpI cs ss d 1) ss c 1)) = swpI (swpI cs ss d 1) ss c 1 := by rw [pos_all fun p hp => (hdc.c.2.1 p hp).1, can_of_asc hdc.ca]
  rw [← ea, ← eb]
  refine can_ext0 hcd.c.1 hdc.c.1 fun k => ?_
  have := cnt k
  unfold Gc at this
  rw [Int.one_mul] at this
  exact this
end DL
set_option Elab.async false
set_option linter.all false
set_option maxRecDepth 100000
set_option maxHeartbeats 1000000
/-! DRn: a list in a drawn order; != [] of lists of data. -/
namespace DL
open PySem L2
theorem okEL_sub : ∀ {xs : List D}, okEL xs = true ↔ ∀ x ∈ xs, okE x = true
  | [] => by unfold okEL; simp
  | x :: xs => by
    unfold okEL
    rw [Bool.and_eq_true, okEL_sub (xs := xs)]
    constructor
    · rintro ⟨h1, h2⟩ y hy
      rcases List.mem_cons.mp hy with rfl | hy
      · exact h1
      · exact h2 y hy
    · intro h
      exact ⟨h x List.mem_cons_self, fun y hy => h y (List.mem_cons_of_mem _ hy)⟩
theorem depL_sub {n : Nat} : ∀ {xs : List D}, (∀ x ∈ xs, dep x ≤ n) → depL xs ≤ n
  | [], _ => by unfold depL; omega
  | x :: xs, h => by
    unfold depL
    have h1 := h x List.mem_cons_self
    have h2 := depL_sub (xs := xs) fun y hy => h y (List.mem_cons_of_mem _ hy)
    omega
theorem frozL_sub : ∀ {xs : List D}, frozL xs = true ↔ ∀ x ∈ xs, froz x = true
  | [] => by unfold frozL; simp
  | x :: xs => by
    unfold frozL
    rw [Bool.and_eq_true, frozL_sub (xs := xs)]
    constructor
    · rintro ⟨h1, h2⟩ y hy
      rcases List.mem_cons.mp hy with rfl | hy
      · exact h1
      · exact h2 y hy
    · intro h
      exact ⟨h x List.mem_cons_self, fun y hy => h y (List.mem_cons_of_mem _ hy)⟩
theorem ne_nilE {o o' : Bool} {xs : List D} (h : okEL xs = true) (h2 : depL xs ≤ 20) : fNeA (.lst o xs) (.lst o' []) = some (.bl (!decide (xs = []))) := by
  obtain ⟨qs, g1, g2, g3⟩ := okE_pyL xs h
  have e1 : toPy (.lst o xs) = some (.list qs) := by unfold toPy; rw [g1]; rfl
  have e2 : toPy (.lst o' []) = some (.list []) := by unfold toPy toPyL; rfl
  have s1 : SeqAt.shaped (.list qs) = true := by
    unfold SeqAt.shaped
    rw [Bool.and_eq_true]
    exact ⟨by unfold PyData.canLay0; exact g2, decide_eq_true (by unfold PyData.depth; omega)⟩
  have s2 : SeqAt.shaped (.list []) = true := by rfl
  have ev : PyData.eqv (.list qs) (.list []) = decide (xs = []) := by
    cases xs with
    | nil => unfold toPyL at g1; cases g1; unfold PyData.eqv PyData.eqvAll; rfl
    | cons x xs =>
      unfold toPyL at g1
      cases hx : toPy x with
      | none => rw [hx] at g1; cases g1
      | some p =>
        rw [hx] at g1
        cases hxs : toPyL xs with
        | none => rw [hxs] at g1; cases g1
        | some ps => rw [hxs] at g1; cases g1; unfold PyData.eqv PyData.eqvAll; simp
  rw [fNeA_lst]
  unfold fNe eqP
  rw [e1, e2, Option.bind_some, Option.bind_some, s1, s2, ev]
  rfl
theorem add_lst {o o' : Bool} {xs ys : List D} (f1 : frozL xs = true) (f2 : frozL ys = true) (h : xs.length + ys.length ≤ 16777216) : fAdd (.lst o xs) (.lst o' ys) = some (.lst true (xs ++ ys)) := by
  have l1 : xs.length + ys.length ≤ sizeLine := by rw [sizeLine_eq]; exact h
  have e2 : fCat (.lst o xs) (.lst o' ys) = some (.lst true (xs ++ ys)) := by
    show (if (frozL xs && frozL ys && decide (xs.length + ys.length ≤ sizeLine)) = true then some (D.lst true (xs ++ ys)) else none) = _
    rw [f1, f2, decide_eq_true l1]
    rfl
  show (match fInt (fun i j => D.int (i + j)) (.lst o xs) (.lst o' ys) with
    | some d => some d
    | none => fOr fCat (fOr fCatT fCatS) (.lst o xs) (.lst o' ys)) = _
  show (match fCat (.lst o xs) (.lst o' ys) with
    | some d => some d
    | none => _) = _
  rw [e2]
theorem perm_map_inv {α β : Type} {f : α → β} {ws : List α} {xs : List β} (p : xs.Perm (ws.map f)) : ∃ vs : List α, xs = vs.map f ∧ vs.Perm ws := by
  generalize hz : ws.map f = zs at p
  induction p generalizing ws with
  | nil => exact ⟨[], rfl, by rw [List.map_eq_nil_iff.mp hz]⟩
  | cons x p ih =>
    cases ws with
    | nil => cases hz
    | cons w ws =>
      rw [List.map_cons] at hz
      injection hz with h1 h2
      obtain ⟨vs, e, q⟩ := ih h2
      exact ⟨w :: vs, by rw [List.map_cons, h1, e], .cons _ q⟩
  | swap x y l =>
    cases ws with
    | nil => cases hz
    | cons w ws =>
      cases ws with
      | nil => cases hz
      | cons v ws =>
        rw [List.map_cons, List.map_cons] at hz
        injection hz with h1 h2
        injection h2 with h2 h3
        exact ⟨v :: w :: ws, by rw [List.map_cons, List.map_cons, h1, h2, h3], .swap ..⟩
  | trans p q i j =>
    obtain ⟨vs, e, r⟩ := j hz
    obtain ⟨us, e2, r2⟩ := i e.symm
    exact ⟨us, e2, r2.trans r⟩
theorem perm_erase : ∀ {xs : List D} {k : Nat} (h : k < xs.length), (xs[k] :: xs.eraseIdx k).Perm xs
  | x :: xs, 0, _ => .refl _
  | x :: xs, k + 1, h => by
    have hk : k < xs.length := by rw [List.length_cons] at h; omega
    have ih := perm_erase (xs := xs) (k := k) hk
    show (xs[k] :: x :: xs.eraseIdx k).Perm (x :: xs)
    exact (List.Perm.swap x xs[k] _).trans (.cons x ih)
theorem shuf_go {L : D} : ∀ {n N : Nat} {spare acc : List D} {st : D}, spare.length = n → IsSt N st → N + n < 2 ^ 39 → frozL spare = true → frozL acc = true → okEL spare = true → (∀ x ∈ spare, dep x ≤ 19) → acc.length + n < 10000 →
    ∃ st' ys, IsSt (N + n) st' ∧ ys.Perm spare ∧ b__law_shuffled_2 [st, L, .lst true spare, .lst true acc] = .nx [st', L, .lst true [], .lst true (acc ++ ys)]
  | 0, N, spare, acc, st, hn, hs, hN, hf, hfa, ho, hd, hl => by
    have e : spare = [] := List.eq_nil_of_length_eq_zero hn
    subst e
    refine ⟨st, [], hs, .refl _, ?_⟩
    unfold b__law_shuffled_2
    have n0 := ne_nilE (o := true) (o' := true) (xs := []) rfl (by unfold depL; omega)
    rw [List.append_nil, while_end (e1 := [st, L, .lst true [], .lst true acc])]
    simp [n0]
  | n + 1, N, spare, acc, st, hn, hs, hN, hf, hfa, ho, hd, hl => by
    obtain ⟨f1, f2, f3⟩ := hs.fz
    obtain ⟨k, s1, g1, ka, kb, e1⟩ := take_ok (size := spare.length) hs (by omega) (by omega) (by omega)
    obtain ⟨f11, f12, f13⟩ := g1.fz
    have hk : k.toNat < spare.length := by omega
    have hm : spare[k.toNat] ∈ spare := List.getElem_mem hk
    have fx : froz spare[k.toNat] = true := frozL_sub.mp hf _ hm
    have sx : isSl spare[k.toNat] = false := by
      revert fx
      cases spare[k.toNat] <;> intro fx
      case sl i => simp at fx
      all_goals simp
    have ux : isUn spare[k.toNat] = false := by
      revert fx
      cases spare[k.toNat] <;> intro fx
      case un => simp at fx
      all_goals simp
    have hi : ixN spare.length k = some k.toNat := by
      unfold ixN
      rw [if_pos ka, if_pos kb]
    have hp : mPopAt (.lst true spare) [.int k] = some (.lst true (spare.eraseIdx k.toNat), spare[k.toNat]) := by
      unfold mPopAt
      dsimp only
      rw [hi, Option.bind_some, List.getElem?_eq_getElem hk, Option.bind_some, if_pos (by exact decide_eq_true (by omega))]
    have sub : ∀ x ∈ spare.eraseIdx k.toNat, x ∈ spare := fun x hx => List.mem_of_mem_eraseIdx hx
    have n1 := ne_nilE (o := true) (o' := true) ho (by exact Nat.le_trans (depL_sub hd) (by omega))
    have ne : decide (spare = []) = false := decide_eq_false fun z => by rw [z] at hn; cases hn
    rw [ne] at n1
    have le : (spare.eraseIdx k.toNat).length = n := by rw [List.length_eraseIdx_of_lt hk]; omega
    obtain ⟨s2, ys, g2, py, ih⟩ := shuf_go (L := L) (n := n) (N := N + 1) (spare := spare.eraseIdx k.toNat) (acc := acc ++ [spare[k.toNat]]) (st := s1) le g1 (by omega) (frozL_sub.mpr fun x hx => frozL_sub.mp hf x (sub x hx))
      (frozL_sub.mpr fun x hx => by
        rcases List.mem_append.mp hx with hx | hx
        · exact frozL_sub.mp hfa x hx
        · rw [List.mem_singleton.mp hx]; exact fx)
      (okEL_sub.mpr fun x hx => okEL_sub.mp ho x (sub x hx)) (fun x hx => hd x (sub x hx)) (by rw [List.length_append]; simp; omega)
    refine ⟨s2, spare[k.toNat] :: ys, g2.mono (by omega), ?_, ?_⟩
    · exact (List.Perm.cons _ py).trans (perm_erase hk)
    · unfold b__law_shuffled_2 at ih ⊢
      have la : acc.length < 16777216 := by omega
      rw [while_nx (e1 := [st, L, .lst true spare, .lst true acc]) (e2 := [s1, L, .lst true (spare.eraseIdx k.toNat), .lst true (acc ++ [spare[k.toNat]])])
        (by simp [n1]) (by
          unfold b__law_shuffled_2_b b__law_shuffled_2_1
          simp [f1, f2, f3, f11, f12, f13, lenA_l, e1, hp, isL, mAppend, la, sizeLine_eq, fx, sx, ux]), ih, List.append_assoc]
      rfl
theorem shuffled_ok {N : Nat} {st : D} {o : Bool} {xs : List D} (hs : IsSt N st) (hN : N < 2 ^ 38) (hl : xs.length < 9000) (hf : frozL xs = true) (ho : okEL xs = true) (hd : ∀ x ∈ xs, dep x ≤ 19) :
    ∃ st' ys, IsSt (N + xs.length) st' ∧ ys.Perm xs ∧ f__law_shuffled [st, .lst o xs] = .ok (.lst true ys) [st', .lst o xs] := by
  obtain ⟨s1, ys, g1, py, e1⟩ := shuf_go (L := .lst o xs) (n := xs.length) (N := N) (spare := xs) (acc := []) (st := st) rfl hs (by omega) hf rfl ho hd (by simp; omega)
  obtain ⟨f1, f2, f3⟩ := hs.fz
  obtain ⟨f11, f12, f13⟩ := g1.fz
  have fy : frozL ys = true := frozL_sub.mpr fun x hx => frozL_sub.mp hf x (py.mem_iff.mp hx)
  refine ⟨s1, ys, g1, py, ?_⟩
  unfold f__law_shuffled b__law_shuffled b__law_shuffled_1 b__law_shuffled_3
  cases o <;> simp [f1, f2, f3, f11, f12, f13, fList, hf, e1, fy]
end DL
set_option Elab.async false
set_option linter.all false
set_option maxRecDepth 100000
set_option maxHeartbeats 1000000
/-! K18p: what the law of k18 answers, in plain Lean. -/
namespace K18
open PySem L2 DL
theorem eqX_int {i j : Int} : fEqX "Row" f_Row_eq (.int i) (.int j) = some (.bl (i == j)) := by
  unfold fEqX fOr fEqO
  rw [ownEq_i]
  show fEqA (.int i) (.int j) = _
  rw [fEqA_int]
def sg (b : Bool) : Int := if b then -1 else 1
theorem sg_or (b : Bool) : sg b = 1 ∨ sg b = -1 := by cases b <;> simp [sg]
abbrev Sw := Int × Bool
def nx (ss R : PL) (w : Sw) : PL := swpI R ss w.1 (sg w.2)
def swD (w : Sw) : D := .tup [.int w.1, .bl w.2]
def swsD (ws : List Sw) : List D := ws.map swD
def OkW (w : Sw) : Prop := 1 ≤ w.1 ∧ w.1 ≤ 99
theorem nx_ok {ss R : PL} {w : Sw} (h : OkR R ss) (k : OkW w) : OkR (nx ss R w) ss ∧ totI (nx ss R w) = totI R := swp_ok (sg_or w.2) h k.1
theorem nx_back {ss R : PL} {c : Int} {b : Bool} (h : OkR R ss) (h1 : 1 ≤ c) : nx ss (nx ss R (c, b)) (c, !b) = R := by
  have := swp_back (c := c) (sg_or b) h h1
  cases b
  · exact this
  · exact this
/-- any two of them, in whatever order -/
theorem nx_comm {ss R : PL} {v w : Sw} (h : OkR R ss) (hv : OkW v) (hw : OkW w) : nx ss (nx ss R v) w = nx ss (nx ss R w) v := by
  have ff : ∀ {R : PL} {c d : Int}, OkR R ss → OkW (c, false) → OkW (d, false) → nx ss (nx ss R (c, false)) (d, false) = nx ss (nx ss R (d, false)) (c, false) := fun h a b => swp_comm h a.1 a.2 b.1 b.2
  have fb : ∀ {R : PL} {c d : Int}, OkR R ss → OkW (c, false) → OkW (d, false) → nx ss (nx ss R (c, false)) (d, true) = nx ss (nx ss R (d, true)) (c, false) := by
    intro R c d h a b
    have q := (nx_ok (w := (d, true)) h ⟨b.1, b.2⟩).1
    have e : nx ss (nx ss R (d, true)) (d, false) = R := nx_back (b := true) h b.1
    have f := ff q b a
    rw [e] at f
    rw [f]
    exact nx_back (b := false) (nx_ok q a).1 b.1
  have bb : ∀ {R : PL} {c d : Int}, OkR R ss → OkW (c, false) → OkW (d, false) → nx ss (nx ss R (c, true)) (d, true) = nx ss (nx ss R (d, true)) (c, true) := by
    intro R c d h a b
    have q := (nx_ok (w := (c, true)) h ⟨a.1, a.2⟩).1
    have e : nx ss (nx ss R (c, true)) (c, false) = R := nx_back (b := true) h a.1
    have f := fb q a b
    rw [e] at f
    have g : nx ss (nx ss (nx ss (nx ss R (c, true)) (d, true)) (c, false)) (c, true) = nx ss (nx ss R (c, true)) (d, true) := nx_back (b := false) (nx_ok (w := (d, true)) q ⟨b.1, b.2⟩).1 a.1
    rw [← g, ← f]
  obtain ⟨c, b⟩ := v
  obtain ⟨d, e⟩ := w
  have hv' : OkW (c, false) := hv
  have hw' : OkW (d, false) := hw
  cases b <;> cases e
  · exact ff h hv' hw'
  · exact fb h hv' hw'
  · exact (fb h hw' hv').symm
  · exact bb h hv' hw'
def dn (ss : PL) (ws : List Sw) (R : PL) : PL := ws.foldl (nx ss) R
theorem dn_ok {ss : PL} : ∀ {ws : List Sw} {R : PL}, OkR R ss → (∀ w ∈ ws, OkW w) → OkR (dn ss ws R) ss ∧ totI (dn ss ws R) = totI R
  | [], R, h, _ => ⟨h, rfl⟩
  | w :: ws, R, h, k => by
    obtain ⟨a, b⟩ := nx_ok h (k w List.mem_cons_self)
    obtain ⟨c, d⟩ := dn_ok a fun v hv => k v (List.mem_cons_of_mem _ hv)
    exact ⟨c, d.trans b⟩
theorem dn_perm {ss : PL} {vs ws : List Sw} (p : vs.Perm ws) : ∀ {R : PL}, OkR R ss → (∀ w ∈ ws, OkW w) → dn ss vs R = dn ss ws R := by
  induction p with
  | nil => intros; rfl
  | cons x p ih => intro R h k; exact ih (nx_ok h (k x List.mem_cons_self)).1 fun v hv => k v (List.mem_cons_of_mem _ hv)
  | swap x y l =>
    intro R h k
    show dn ss l _ = dn ss l _
    rw [nx_comm h (k y (List.mem_cons_of_mem _ List.mem_cons_self)) (k x List.mem_cons_self)]
  | trans p q i j => intro R h k; rw [i h fun w hw => k w (q.mem_iff.mp hw), j h k]
@[simp] theorem froz_sw {w : Sw} : froz (swD w) = true := by unfold swD; simp
@[simp] theorem frozL_sws : ∀ {ws : List Sw}, frozL (swsD ws) = true
  | [] => rfl
  | w :: ws => by
    show frozL (swD w :: swsD ws) = true
    unfold frozL
    rw [froz_sw, frozL_sws]
    rfl
@[simp] theorem fzL_sws : ∀ {ws : List Sw}, fzL (swsD ws) = swsD ws
  | [] => rfl
  | w :: ws => by
    show fzL (swD w :: swsD ws) = swD w :: swsD ws
    unfold fzL
    rw [fzL_sws]
    unfold swD
    simp
theorem okE_sw {w : Sw} : okE (swD w) = true := by unfold swD okE okEL okE okEL okE okEL; rfl
theorem dep_sw {w : Sw} : dep (swD w) ≤ 19 := by have : dep (swD w) = 1 := rfl; omega
theorem okEL_sws {ws : List Sw} : okEL (swsD ws) = true := okEL_sub.mpr fun x hx => by
  obtain ⟨w, _, rfl⟩ := List.mem_map.mp hx
  exact okE_sw
theorem dep_sws {ws : List Sw} : ∀ x ∈ swsD ws, dep x ≤ 19 := fun x hx => by
  obtain ⟨w, _, rfl⟩ := List.mem_map.mp hx
  exact dep_sw
theorem done_ok {ss R : PL} {o : Bool} {ws : List Sw} (h : OkR R ss) (k : ∀ w ∈ ws, OkW w) : f__law_done [rowD R ss, .lst o (swsD ws)] = .ok (rowD (dn ss ws R) ss) [rowD R ss, .lst false (swsD ws)] := by
  obtain ⟨e, he, Q, y3, y4, hQ, hk, rfl⟩ : ∃ e, forD (tgTup [tgName 3, tgName 4]) b__law_done_2_b (swsD ws) [rowD R ss, .lst false (swsD ws), rowD R ss, .un, .un] = .nx e ∧ ∃ (Q : PL) (y3 y4 : D), Q = dn ss ws R ∧ OkR Q ss ∧ e = [rowD R ss, .lst false (swsD ws), rowD Q ss, y3, y4] := by
    have go : ∀ (vs : List Sw) (Q : PL) (y3 y4 : D), OkR Q ss → (∀ w ∈ vs, OkW w) → ∃ e, forD (tgTup [tgName 3, tgName 4]) b__law_done_2_b (swsD vs) [rowD R ss, .lst false (swsD ws), rowD Q ss, y3, y4] = .nx e ∧ ∃ (Q' : PL) (y3 y4 : D), Q' = dn ss vs Q ∧ OkR Q' ss ∧ e = [rowD R ss, .lst false (swsD ws), rowD Q' ss, y3, y4] := by
      intro vs
      induction vs with
      | nil => intro Q y3 y4 hQ _; exact ⟨_, rfl, Q, y3, y4, rfl, hQ, rfl⟩
      | cons w vs ih =>
        intro Q y3 y4 hQ hv
        obtain ⟨c, b⟩ := w
        have hw := hv (c, b) List.mem_cons_self
        have sw := swept_ok hQ hw.1 hw.2
        have us := unswept_ok hQ hw.1 hw.2
        obtain ⟨e, e1, r⟩ := ih (nx ss Q (c, b)) (.int c) (.bl b) (nx_ok hQ hw).1 fun v h => hv v (List.mem_cons_of_mem _ h)
        refine ⟨e, ?_, r⟩
        rw [← e1]
        show forD _ _ (swD (c, b) :: swsD vs) _ = _
        conv => lhs; unfold forD
        have tg : tgTup [tgName 3, tgName 4] (swD (c, b)) [rowD R ss, .lst false (swsD ws), rowD Q ss, y3, y4] = some [rowD R ss, .lst false (swsD ws), rowD Q ss, .int c, .bl b] := by
          unfold swD; simp
        rw [tg]
        dsimp only
        have bd : b__law_done_2_b [rowD R ss, .lst false (swsD ws), rowD Q ss, .int c, .bl b] = .nx [rowD R ss, .lst false (swsD ws), rowD (nx ss Q (c, b)) ss, .int c, .bl b] := by
          unfold b__law_done_2_b b__law_done_2_1
          cases b
          · have q : nx ss Q (c, false) = swpI Q ss c 1 := rfl
            rw [q]; simp [sw]
          · have q : nx ss Q (c, true) = swpI Q ss c (-1) := rfl
            rw [q]; simp [us]
        rw [bd]
    exact go ws R .un .un h k
  unfold f__law_done b__law_done b__law_done_1 b__law_done_2 b__law_done_3
  subst hQ
  cases o <;> simp [he]
/-- boxes with one item each -/
theorem crowd_ok {N : Nat} {st : D} (hs : IsSt N st) (hN : N < 2 ^ 38) : ∃ cs st', IsSt (N + 100) st' ∧ Asc cs ∧ (∀ p ∈ cs, p.2 = 1) ∧ cs.length ≤ 40 ∧ f__law_crowd [st] = .ok (.dct true (kI cs) (vI cs)) [st'] := by
  obtain ⟨f1, f2, f3⟩ := hs.fz
  obtain ⟨k1, s1, g1, k1a, k1b, e1⟩ := take_ok (size := 30) hs (by omega) (by omega) (by omega)
  obtain ⟨f11, f12, f13⟩ := g1.fz
  obtain ⟨k2, s2, g2, k2a, k2b, e2⟩ := take_ok (size := 7) g1 (by omega) (by omega) (by omega)
  obtain ⟨f21, f22, f23⟩ := g2.fz
  obtain ⟨e, he, s3, m3, p3, t3, g3, a3, v3, l3, _, rfl⟩ := rng_ok (tg := tgName 3) (body := b__law_crowd_2_b) (fun j env => ∃ (s' : D) (m : PL) (p : Int) (t : D), IsSt (N + 2 + j) s' ∧ Asc m ∧ (∀ q ∈ m, q.2 = 1) ∧ m.length = j ∧ (∀ k ∈ keysI m, k < p) ∧ env = [s', .int p, .dct true (kI m) (vI m), t]) (34 + k2).toNat 0
    [s2, .int (k1 - 20), .dct true [] [], .un] ⟨s2, [], k1 - 20, .un, g2, List.Pairwise.nil, fun q hq => absurd hq List.not_mem_nil, rfl, fun k hk => absurd hk List.not_mem_nil, rfl⟩ (by
      rintro j e hj ⟨s', m, p, t, hst, ha, hv, hl, hk, rfl⟩
      obtain ⟨f1, f2, f3⟩ := hst.fz
      obtain ⟨x, s4, g4, m4, _, e4⟩ := pick_ok (o := true) (xs := [.int 0, .int 0, .int 1, .int 1, .int 2, .int 5]) hst (by omega) (by simp) (by simp) (by simp)
      obtain ⟨f41, f42, f43⟩ := g4.fz
      obtain ⟨y, rfl, ya⟩ : ∃ y, x = .int y ∧ 0 ≤ y := by
        simp at m4
        rcases m4 with h | h | h | h
        all_goals exact ⟨_, h, by omega⟩
      have pn : putI m (p, 1) = m ++ [(p, 1)] := putI_new fun z => by have := hk _ z; omega
      have ap := putD_I (k := p) (v := 1) ha.nk (by rw [sizeLine_eq]; omega)
      rw [pn] at ap
      refine ⟨[s', .int p, .dct true (kI m) (vI m), .int (0 + (j : Int))], [s4, .int (p + 1 + y), .dct true (kI (m ++ [(p, 1)])) (vI (m ++ [(p, 1)])), .int (0 + (j : Int))], rfl, ?_, s4, m ++ [(p, 1)], p + 1 + y, .int (0 + (j : Int)), g4.mono (by omega), ?_, ?_, by rw [List.length_append, hl]; rfl, ?_, rfl⟩
      · unfold b__law_crowd_2_b b__law_crowd_2_1 b__law_crowd_2_2
        simp [ap, e4, f1, f2, f3, f41, f42, f43, sizeLine_eq]
      · refine List.pairwise_append.mpr ⟨ha, List.pairwise_singleton .., fun a h b hb => ?_⟩
        rw [List.mem_singleton.mp hb]
        exact hk a.1 (List.mem_map.mpr ⟨a, h, rfl⟩)
      · intro q hq
        rcases List.mem_append.mp hq with hq | hq
        · exact hv q hq
        · rw [List.mem_singleton.mp hq]
      · intro k hk2
        unfold keysI at hk2
        rw [List.map_append] at hk2
        rcases List.mem_append.mp hk2 with hq | hq
        · have := hk k hq; omega
        · have := List.mem_singleton.mp hq; simp only at this; omega)
  obtain ⟨f31, f32, f33⟩ := g3.fz
  refine ⟨m3, s3, g3.mono (by omega), a3, v3, by omega, ?_⟩
  have r1 : -4611686018427387904 ≤ 34 + k2 ∧ 34 + k2 < 4611686018427387904 := by omega
  unfold f__law_crowd b__law_crowd b__law_crowd_1 b__law_crowd_2 b__law_crowd_3
  simp [f1, f2, f3, f11, f12, f13, e1, f21, f22, f23, e2, f31, f32, f33, r1, he]
theorem add_sws {o o' : Bool} {vs ws : List Sw} (h : vs.length + ws.length ≤ 1000) : fAdd (.lst o (swsD vs)) (.lst o' (swsD ws)) = some (.lst true (swsD (vs ++ ws))) := by
  have e3 : swsD (vs ++ ws) = swsD vs ++ swsD ws := List.map_append
  rw [e3]
  exact add_lst frozL_sws frozL_sws (by unfold swsD; rw [List.length_map, List.length_map]; omega)
theorem perm_sws : ∀ {xs : List D} {ws : List Sw}, xs.Perm (swsD ws) → ∃ vs, xs = swsD vs ∧ vs.Perm ws := fun {xs ws} p => perm_map_inv p
/-! ### a turn of the law -/
theorem turn_ok {N : Nat} {S s t y3 y4 y5 y6 y7 y8 y9 y10 : D} (hs : IsSt N s) (hN : N < 2 ^ 36) :
    ∃ s' z3 z4 z5 z6 z7 z8 z9 z10, IsSt (N + 300) s' ∧ b_law_2_b [S, s, t, y3, y4, y5, y6, y7, y8, y9, y10] = .nx [S, s', t, z3, z4, z5, z6, z7, z8, z9, z10] := by
  obtain ⟨f1, f2, f3⟩ := hs.fz
  obtain ⟨ss, s1, g1, hss, sa, sl, e1⟩ := sizes_ok (most := 6) hs (by omega) (by omega) (by omega)
  obtain ⟨f11, f12, f13⟩ := g1.fz
  have t1 : b_law_2_1 [S, s, t, y3, y4, y5, y6, y7, y8, y9, y10] = .nx [S, s1, t, .dct true (kI ss) (vI ss), y4, y5, y6, y7, y8, y9, y10] := by
    unfold b_law_2_1
    simp [e1, f1, f2, f3, f11, f12, f13]
  obtain ⟨k2, s2, g2, k2a, k2b, e2⟩ := take_ok (size := 8) g1 (by omega) (by omega) (by omega)
  obtain ⟨f21, f22, f23⟩ := g2.fz
  obtain ⟨b, hb⟩ : ∃ b, (k2 == 0) = b := ⟨_, rfl⟩
  have eq2 := eqX_int (i := k2) (j := 0)
  rw [hb] at eq2
  have t2 : b_law_2_2 [S, s1, t, .dct true (kI ss) (vI ss), y4, y5, y6, y7, y8, y9, y10] = .nx [S, s2, t, .dct true (kI ss) (vI ss), .bl b, y5, y6, y7, y8, y9, y10] := by
    unfold b_law_2_2
    simp [e2, eq2, f11, f12, f13, f21, f22, f23]
  obtain ⟨cs, s3, o, g3, h, t3⟩ : ∃ cs s3 o, IsSt (N + 150) s3 ∧ OkR cs ss ∧ b_law_2_3 [S, s2, t, .dct true (kI ss) (vI ss), .bl b, y5, y6, y7, y8, y9, y10] = .nx [S, s3, t, .dct o (kI ss) (vI ss), .bl b, .dct true (kI cs) (vI cs), y6, y7, y8, y9, y10] := by
    cases b with
    | true =>
      obtain ⟨cs, s3, g3, ha, hv, hl, e3⟩ := crowd_ok g2 (by omega)
      obtain ⟨f31, f32, f33⟩ := g3.fz
      have tt : totI cs = cs.length := by
        clear e3 ha hl
        induction cs with
        | nil => rfl
        | cons p cs ih =>
          have e := hv p List.mem_cons_self
          have i := ih fun q hq => hv q (List.mem_cons_of_mem _ hq)
          unfold totI at i ⊢
          rw [List.map_cons, List.sum_cons, i, List.length_cons, e]
          omega
      refine ⟨cs, s3, true, g3.mono (by omega), ⟨⟨ha.nk, fun p hp => ?_, by omega⟩, hss, ha, sa⟩, ?_⟩
      · have c := cap_pos hss p.1
        rw [hv p hp]
        exact ⟨Int.le_refl _, c.1⟩
      · unfold b_law_2_3
        simp [e3, f21, f22, f23, f31, f32, f33]
    | false =>
      obtain ⟨x2, s3, g3, m2, _, e3⟩ := pick_ok (o := true) (xs := [.int 4, .int 12, .int 20]) g2 (by omega) (by simp) (by simp) (by simp)
      obtain ⟨f31, f32, f33⟩ := g3.fz
      obtain ⟨most, rfl, ma, mb⟩ : ∃ m, x2 = .int m ∧ 0 ≤ m ∧ m ≤ 20 := by
        simp at m2
        rcases m2 with h | h | h
        all_goals exact ⟨_, h, by omega, by omega⟩
      obtain ⟨cs, s4, g4, hc, ca, ct, cf, e4⟩ := boxes_ok (o := true) (most := most) g3 (by omega) hss ma (by omega)
      obtain ⟨f41, f42, f43⟩ := g4.fz
      refine ⟨cs, s4, false, g4.mono (by omega), ⟨hc, hss, ca, sa⟩, ?_⟩
      unfold b_law_2_3
      simp [e3, e4, f21, f22, f23, f31, f32, f33, f41, f42, f43, sizeLine_eq]
  obtain ⟨f31, f32, f33⟩ := g3.fz
  have mk0 := made_ok (o := true) (o2 := o) h
  have t4 : b_law_2_4 [S, s3, t, .dct o (kI ss) (vI ss), .bl b, .dct true (kI cs) (vI cs), y6, y7, y8, y9, y10] = .nx [S, s3, t, .dct o (kI ss) (vI ss), .bl b, rowD cs ss, y6, y7, y8, y9, y10] := by
    unfold b_law_2_4
    cases o <;> simp [mk0]
  have t5 : b_law_2_5 [S, s3, t, .dct o (kI ss) (vI ss), .bl b, rowD cs ss, y6, y7, y8, y9, y10] = .nx [S, s3, t, .dct o (kI ss) (vI ss), .bl b, rowD cs ss, .lst true [], y7, y8, y9, y10] := by
    unfold b_law_2_5
    simp
  obtain ⟨k5, s5, g5, k5a, k5b, e5⟩ := take_ok (size := 8) g3 (by omega) (by omega) (by omega)
  obtain ⟨f51, f52, f53⟩ := g5.fz
  obtain ⟨e6, he, s6, ws, x7, g6, hw, lw, rfl⟩ := rng_ok (tg := tgName 7) (body := b_law_2_6_b) (fun k env => ∃ (s' : D) (ws : List Sw) (y7 : D), IsSt (N + 151 + 2 * k) s' ∧ (∀ w ∈ ws, OkW w) ∧ ws.length = k ∧
      env = [S, s', t, .dct o (kI ss) (vI ss), .bl b, rowD cs ss, .lst true (swsD ws), y7, y8, y9, y10]) k5.toNat 0
    [S, s5, t, .dct o (kI ss) (vI ss), .bl b, rowD cs ss, .lst true [], y7, y8, y9, y10] ⟨s5, [], y7, g5, fun w hw => absurd hw List.not_mem_nil, rfl, rfl⟩ (by
      rintro k e hk ⟨s', ws, z7, hst, hw, hl, rfl⟩
      obtain ⟨f1, f2, f3⟩ := hst.fz
      obtain ⟨x, s4, g4, m4, _, e4⟩ := pick_ok (o := true) (xs := [.int 1, .int 1, .int 2, .int 3, .int 4, .int 9, .int 99]) hst (by omega) (by simp) (by simp) (by simp)
      obtain ⟨f41, f42, f43⟩ := g4.fz
      obtain ⟨c, rfl, h1, h2⟩ : ∃ y, x = .int y ∧ 1 ≤ y ∧ y ≤ 99 := by
        simp at m4
        rcases m4 with h | h | h | h | h | h
        all_goals exact ⟨_, h, by omega, by omega⟩
      obtain ⟨k6, s5, g5, k6a, k6b, e6⟩ := take_ok (size := 3) g4 (by omega) (by omega) (by omega)
      obtain ⟨f51, f52, f53⟩ := g5.fz
      obtain ⟨b6, hb6⟩ : ∃ b, (k6 == 0) = b := ⟨_, rfl⟩
      have eq6 := eqX_int (i := k6) (j := 0)
      rw [hb6] at eq6
      have lw : (swsD ws).length < 16777216 := by unfold swsD; rw [List.length_map]; omega
      have sn : swsD (ws ++ [(c, b6)]) = swsD ws ++ [.tup [.int c, .bl b6]] := List.map_append
      refine ⟨_, _, rfl, ?_, s5, ws ++ [(c, b6)], .int (0 + (k : Int)), g5.mono (by omega), ?_, by rw [List.length_append, hl]; rfl, rfl⟩
      · rw [sn]
        unfold b_law_2_6_b b_law_2_6_1
        simp [e4, e6, eq6, f1, f2, f3, f41, f42, f43, f51, f52, f53, isL, mAppend, lw, sizeLine_eq]
      · intro w hw2
        rcases List.mem_append.mp hw2 with q | q
        · exact hw w q
        · rw [List.mem_singleton.mp q]; exact ⟨h1, h2⟩)
  obtain ⟨f61, f62, f63⟩ := g6.fz
  have r1 : -4611686018427387904 ≤ k5 ∧ k5 < 4611686018427387904 := by omega
  have t6 : b_law_2_6 [S, s3, t, .dct o (kI ss) (vI ss), .bl b, rowD cs ss, .lst true [], y7, y8, y9, y10] = .nx [S, s6, t, .dct o (kI ss) (vI ss), .bl b, rowD cs ss, .lst true (swsD ws), x7, y8, y9, y10] := by
    unfold b_law_2_6
    simp [e5, f31, f32, f33, f51, f52, f53, r1, he]
  have d7 := done_ok (o := true) h hw
  have t7 : b_law_2_7 [S, s6, t, .dct o (kI ss) (vI ss), .bl b, rowD cs ss, .lst true (swsD ws), x7, y8, y9, y10] = .nx [S, s6, t, .dct o (kI ss) (vI ss), .bl b, rowD cs ss, .lst false (swsD ws), x7, rowD (dn ss ws cs) ss, y9, y10] := by
    unfold b_law_2_7
    simp [d7]
  obtain ⟨k7, kt⟩ := dn_ok h hw
  have lsw : (swsD ws).length = ws.length := List.length_map ..
  obtain ⟨s8, xs8, g8, p8, e8⟩ := shuffled_ok (o := false) (xs := swsD ws) g6 (by omega) (by omega) frozL_sws okEL_sws dep_sws
  obtain ⟨f81, f82, f83⟩ := g8.fz
  obtain ⟨vs8, rfl, q8⟩ := perm_sws p8
  have d8 := done_ok (o := true) h fun w hq => hw w (q8.mem_iff.mp hq)
  rw [dn_perm q8 h hw] at d8
  have nr := neX_row (cs := dn ss ws cs) (ss := ss)
  have tt1 := total_ok (cs := cs) (ss := ss) (by have := h.c.len; omega)
  have tt2 := total_ok (cs := dn ss ws cs) (ss := ss) (by have := k7.c.len; omega)
  rw [kt] at tt2
  have t8 : b_law_2_8 [S, s6, t, .dct o (kI ss) (vI ss), .bl b, rowD cs ss, .lst false (swsD ws), x7, rowD (dn ss ws cs) ss, y9, y10] = .nx [S, s8, t, .dct o (kI ss) (vI ss), .bl b, rowD cs ss, .lst false (swsD ws), x7, rowD (dn ss ws cs) ss, y9, y10] := by
    unfold b_law_2_8
    simp [e8, d8, nr, f61, f62, f63, f81, f82, f83, ob_total, tt1, tt2, neX_int]
  obtain ⟨x9, s9, g9, m9, _, e9⟩ := pick_ok (o := true) (xs := [.int 1, .int 2, .int 5, .int 40]) g8 (by omega) (by simp) (by simp) (by simp)
  obtain ⟨f91, f92, f93⟩ := g9.fz
  obtain ⟨c, rfl, h1, h2⟩ : ∃ y, x9 = .int y ∧ 1 ≤ y ∧ y ≤ 99 := by
    simp at m9
    rcases m9 with h | h | h | h
    all_goals exact ⟨_, h, by omega, by omega⟩
  have t9 : b_law_2_9 [S, s8, t, .dct o (kI ss) (vI ss), .bl b, rowD cs ss, .lst false (swsD ws), x7, rowD (dn ss ws cs) ss, y9, y10] = .nx [S, s9, t, .dct o (kI ss) (vI ss), .bl b, rowD cs ss, .lst false (swsD ws), x7, rowD (dn ss ws cs) ss, .int c, y10] := by
    unfold b_law_2_9
    simp [e9, f81, f82, f83, f91, f92, f93, sizeLine_eq]
  have hw2 : ∀ w ∈ (c, true) :: (c, false) :: ws, OkW w := fun w hq => by
    rcases List.mem_cons.mp hq with rfl | hq
    · exact ⟨h1, h2⟩
    · rcases List.mem_cons.mp hq with rfl | hq
      · exact ⟨h1, h2⟩
      · exact hw w hq
  have ad : fAdd (.lst true (swsD [(c, true), (c, false)])) (.lst false (swsD ws)) = some (.lst true (swsD ((c, true) :: (c, false) :: ws))) := add_sws (o := true) (o' := false) (vs := [(c, true), (c, false)]) (ws := ws) (by simp; omega)
  have ad2 : swsD [(c, true), (c, false)] = [.tup [.int c, .bl true], .tup [.int c, .bl false]] := rfl
  rw [ad2] at ad
  have lsw2 : (swsD ((c, true) :: (c, false) :: ws)).length = ws.length + 2 := by unfold swsD; rw [List.length_map]; simp
  obtain ⟨s10, xs10, g10, p10, e10⟩ := shuffled_ok (o := true) (xs := swsD ((c, true) :: (c, false) :: ws)) g9 (by omega) (by omega) frozL_sws okEL_sws dep_sws
  obtain ⟨f101, f102, f103⟩ := g10.fz
  obtain ⟨vs10, rfl, q10⟩ := perm_sws p10
  have t10 : b_law_2_10 [S, s9, t, .dct o (kI ss) (vI ss), .bl b, rowD cs ss, .lst false (swsD ws), x7, rowD (dn ss ws cs) ss, .int c, y10] = .nx [S, s10, t, .dct o (kI ss) (vI ss), .bl b, rowD cs ss, .lst false (swsD ws), x7, rowD (dn ss ws cs) ss, .int c, .lst true (swsD vs10)] := by
    unfold b_law_2_10
    simp [ad, e10, f91, f92, f93, f101, f102, f103, sizeLine_eq]
  have d11 := done_ok (o := true) h fun w hq => hw2 w (q10.mem_iff.mp hq)
  have e11 : dn ss vs10 cs = dn ss ws cs := by
    rw [dn_perm q10 h hw2]
    show dn ss ws (nx ss (nx ss cs (c, true)) (c, false)) = _
    have e : nx ss (nx ss cs (c, true)) (c, false) = cs := nx_back (b := true) h h1
    rw [e]
  rw [e11] at d11
  have t11 : b_law_2_11 [S, s10, t, .dct o (kI ss) (vI ss), .bl b, rowD cs ss, .lst false (swsD ws), x7, rowD (dn ss ws cs) ss, .int c, .lst true (swsD vs10)] = .nx [S, s10, t, .dct o (kI ss) (vI ss), .bl b, rowD cs ss, .lst false (swsD ws), x7, rowD (dn ss ws cs) ss, .int c, .lst false (swsD vs10)] := by
    unfold b_law_2_11
    simp [d11, nr]
  refine ⟨s10, .dct o (kI ss) (vI ss), .bl b, rowD cs ss, .lst false (swsD ws), x7, rowD (dn ss ws cs) ss, .int c, .lst false (swsD vs10), g10.mono (by omega), ?_⟩
  unfold b_law_2_b
  simp only [nSeq, Out.seq, t1, t2, t3, t4, t5, t6, t7, t8, t9, t10, t11]
theorem law_ok {ns : List Int} (h : ns.length ≤ 63) : ∃ ps, f_law [.scr ns] = .ok (.bl true) ps := by
  obtain ⟨st, hst, eb⟩ := begun_ok h
  obtain ⟨f1, f2, f3⟩ := hst.fz
  obtain ⟨e, he, s, z2, z3, z4, z5, z6, z7, z8, z9, z10, rfl, hs⟩ := rng_ok (tg := tgName 2) (body := b_law_2_b) (fun k env => ∃ s y2 y3 y4 y5 y6 y7 y8 y9 y10, env = [.scr ns, s, y2, y3, y4, y5, y6, y7, y8, y9, y10] ∧ IsSt (300 * k) s)
    (3 + min ns.length 4) 0 [.scr ns, st, .un, .un, .un, .un, .un, .un, .un, .un, .un] ⟨st, .un, .un, .un, .un, .un, .un, .un, .un, .un, rfl, hst⟩ (by
      rintro k e hk ⟨s, y2, y3, y4, y5, y6, y7, y8, y9, y10, rfl, hs⟩
      obtain ⟨s1, w3, w4, w5, w6, w7, w8, w9, w10, h1, e1⟩ := turn_ok (S := .scr ns) (t := .int (0 + (k : Int))) (y3 := y3) (y4 := y4) (y5 := y5) (y6 := y6) (y7 := y7) (y8 := y8) (y9 := y9) (y10 := y10) hs (by omega)
      exact ⟨_, _, rfl, e1, s1, .int (0 + (k : Int)), w3, w4, w5, w6, w7, w8, w9, w10, rfl, h1.mono (by omega)⟩)
  have hm : (if (4 : Int) < ns.length then (4 : Int) else ns.length) = ((min ns.length 4 : Nat) : Int) := by
    split <;> omega
  have hr : -4611686018427387904 ≤ 3 + ((min ns.length 4 : Nat) : Int) ∧ 3 + ((min ns.length 4 : Nat) : Int) < 4611686018427387904 := by omega
  have ht : (3 + ((min ns.length 4 : Nat) : Int)).toNat = 3 + min ns.length 4 := by omega
  refine ⟨[.scr ns], ?_⟩
  unfold f_law b_law b_law_1 b_law_2 b_law_3
  simp only [fdOf, nSeq, nAsg, nFor]
  simp [eb, f1, f2, f3, lenA_s, hm, hr, ht, he]
end K18
set_option Elab.async false
set_option linter.all false
set_option maxRecDepth 100000
set_option maxHeartbeats 4000000
/-! DLz: the end of a law: what the top has written, the promise of law. -/
namespace DL
open PySem L2

theorem sp_law {K : PySem.W.Frag} {mg : Str → Option Value} {H : Hp} {a : Addr} {ns : List Int} {fden : List D → FR} (h : ∃ ps, fden [.scr ns] = .ok (.bl true) ps) (hS : SqL K H a (ns.map V.int)) : spD K mg 1 fden [.ref a] H (fun v _ => v = .bl true) fun _ _ _ => False := by
  obtain ⟨ps, e⟩ := h
  refine ⟨rfl, H, [.scr ns], [], ?_, List.nodup_nil, fun a ha => absurd ha List.not_mem_nil, Ex.refl H, ?_⟩
  · exact RpL.one (by unfold Rp; exact ⟨rfl, a, rfl, hS⟩)
  · unfold FRP
    rw [e]
    refine ⟨rfl, rfl, fun v H' F' hp => ?_⟩
    obtain ⟨S', ru, _⟩ := hp
    unfold RpLu at ru
    obtain ⟨v', r, S1, S2, e2, _, hd, _⟩ := ru
    cases e2
    rcases hd with hd | hd
    · cases hd.1
    · unfold Rp at hd
      exact hd.1
theorem tb_nil {P : Str → Bool → Prop} : ∀ cl y, (([] : List (Str × Bool)).lookup cl) = some y → P cl y := fun cl y h => by cases h
theorem tb_cons {P : Str → Bool → Prop} {c : Str} {b : Bool} {r : List (Str × Bool)} (h1 : P c b) (h2 : ∀ cl y, r.lookup cl = some y → P cl y) : ∀ cl y, ((c, b) :: r).lookup cl = some y → P cl y := fun cl y h => by
  rw [List.lookup_cons] at h
  cases q : cl == c with
  | true =>
    rw [q] at h
    have e : cl = c := by simpa using q
    cases h
    rw [e]
    exact h1
  | false =>
    rw [q] at h
    exact h2 cl y h
section
variable {K : PySem.W.Frag} {mg : Str → Option Value} {x : Str} {C Ch : Addr} {b : Bool}
theorem mg_at (hm : mg x = some (.ref C)) {Q : Addr → Prop} (h : Q C) : ∀ D, mg x = some (.ref D) → Q D := fun D hD => by
  have e := hD.symm.trans hm
  cases e
  exact h
theorem excR_mk (h1 : mg x = some (.ref C)) (h2 : PySem.W.excIn K C veMro "ValueError.__new__" = true) (h3 : PySem.W.keepIn K (.ref C) = true) (h4 : PySem.W.subIn K (.ref C) (.type "BaseException") = some true) (h5 : PySem.W.typeIn K (.ref C) = some (.type "type")) : ExcR K mg x :=
  ⟨C, h1, h2, h3, h4, h5⟩
theorem kit_ref (h1 : (PySem.W.clsIn K Ch).isSome = true) (h2 : PySem.W.typeIn K (.ref Ch) = some (.type "type")) (h3 : PySem.W.subIn K (.ref C) (.ref Ch) = some b) (hb : C = Ch → b = true) : PySem.W.kitOne K (.ref C) (.ref Ch) = some b := by
  unfold PySem.W.kitOne
  by_cases e : C = Ch
  · subst e
    rw [if_pos (beq_self_eq_true _), hb rfl]
  · rw [if_neg (by simpa using e)]
    unfold PySem.W.kitCls
    dsimp only
    rw [h1, h2]
    exact h3
end
theorem mem_cons {P : String → Prop} {t : String} {ts : List String} (h1 : P t) (h2 : ∀ x, x ∈ ts → P x) : ∀ x, x ∈ t :: ts → P x := fun x hx => (List.mem_cons.mp hx).elim (fun e => by rw [e]; exact h1) (h2 x)
theorem kit_plain {K : PySem.W.Frag} {Ch : Addr} {t : String} (h1 : (PySem.W.clsIn K Ch).isSome = true) (h2 : PySem.W.typeIn K (.ref Ch) = some (.type "type")) (h3 : PySem.W.subIn K (.type t) (.ref Ch) = some false) : PySem.W.kitOne K (.type t) (.ref Ch) = some false := by
  unfold PySem.W.kitOne
  rw [if_neg (by simp)]
  unfold PySem.W.kitCls
  dsimp only
  rw [h1, h2]
  exact h3
theorem has_mk {P : Program} {w : World} {K : PySem.W.Frag} {mg : Str → Option Value} {base : Heap} {k : Nat} {x : Str} {f : Addr} {fd : FuncData} {ps : List Str} {fden : List D → FR} (F : FnD P w K mg base k f fd ps fden) (hm : mg x = some (.ref f)) (hk : PySem.W.keepIn K (.ref f) = true) (hb : Binds K fd ps []) : Has P w K mg base k x ps fden [] :=
  ⟨f, fd, [], [], F, hm, hk, hb, .nil, fun _ _ => RpL.nil⟩
theorem hasK_mk {P : Program} {w : World} {K : PySem.W.Frag} {mg : Str → Option Value} {base : Heap} {k m : Nat} {x : Str} {f : Addr} {fd : FuncData} {ps ks : List Str} {ord : List Nat} {fden : List D → FR} (F : FnD P w K mg base k f fd ps fden) (hm : mg x = some (.ref f)) (hk : PySem.W.keepIn K (.ref f) = true)
    (hb : ∀ (s : Shared) (us ws : List Value), us.length = m → ws.length = ks.length → BindsTo s fd ⟨us, ks.zip ws⟩ (ps.zip (ordL .none ord (us ++ ws ++ [])))) (hl : ord.length = ps.length) : HasK P w K mg base k x ps ks ord m fden [] :=
  ⟨f, fd, [], [], F, hm, hk, ⟨fun s us ws _ h1 h2 => hb s us ws h1 h2, hl⟩, .nil, fun _ _ => RpL.nil⟩
/-! ### classes -/
section
variable {K : PySem.W.Frag} {mg : Str → Option Value} {c n : Str} {C T : Addr}
theorem looks_dfl {M : Model} {h : Heap} {fd : FuncData} {ar : Args} {binds : List (Str × Value)} {o : Obj} {its : List Value} {m : Nat} {k : Option (Array Value) → Sem (List (Str × Value))} (X : K.In h) (hT : K.lookup T = some o) (ho : o.data = .seq its.toArray m)
    (h1 : bindArgs fd ar = seqItems? (.ref T) >>= k) (h2 : k (some its.toArray) = pure binds) : PySem.W.Looks M h (bindArgs fd ar) binds := by
  rw [h1]
  exact L2.looks_items X hT ho (.of_pure h2)
theorem binds_dfl {fd : FuncData} {ps : List Str} {ds : List Value} {o : Obj} {its : List Value} {m n : Nat} (hT : K.lookup T = some o) (ho : o.data = .seq its.toArray m) (hn : n + ds.length = ps.length)
    (h : ∀ us : List Value, us.length = n → ∃ k : Option (Array Value) → Sem (List (Str × Value)), bindArgs fd ⟨us, []⟩ = seqItems? (.ref T) >>= k ∧ k (some its.toArray) = pure (ps.zip (us ++ ds))) : Binds K fd ps ds := fun s us X hl => by
  obtain ⟨k, h1, h2⟩ := h us (by rw [List.length_append] at hl; omega)
  exact L2.BindsTo.of_looks fun M => looks_dfl X hT ho h1 h2
theorem bindsK_dfl {fd : FuncData} {ps ks : List Str} {ord : List Nat} {ds : List Value} {o : Obj} {its : List Value} {m : Nat} (hT : K.lookup T = some o) (ho : o.data = .seq its.toArray m)
    (h : ∀ (w : Value) (ws : List Value), ws.length = ks.length → ∃ k : Option (Array Value) → Sem (List (Str × Value)), bindArgs fd ⟨[w], ks.zip ws⟩ = seqItems? (.ref T) >>= k ∧ k (some its.toArray) = pure (ps.zip (w :: ordL .none ord (ws ++ ds)))) :
    ∀ (s : Shared) (w : Value) (ws : List Value), K.In s.heap → ws.length = ks.length → BindsTo s fd ⟨[w], ks.zip ws⟩ (ps.zip (w :: ordL .none ord (ws ++ ds))) := fun s w ws X hl => by
  obtain ⟨k, h1, h2⟩ := h w ws hl
  exact L2.BindsTo.of_looks fun M => looks_dfl X hT ho h1 h2
theorem rp_tup0 {F H : Hp} {e : Addr} {o : Obj} {m : Nat} (h : K.lookup e = some o) (hc : o.cls = .type "tuple") (hd : o.data = .seq #[] m) : Rp K mg F H (.tup []) (.ref e) [] := by
  unfold Rp
  exact ⟨e, [], rfl, RpL.nil, Or.inr ⟨o, #[], m, h, hc, hd, by simp, by first | exact PySem.Paired.nil | simpa using PySem.Paired.nil⟩⟩
theorem cls_mk (h1 : PySem.W.plainGet K C Str.empty = true) (h2 : PySem.W.hasDictIn K C = true) (h3 : PySem.W.plainOver K C = true) (h4 : PySem.W.findIn K (.ref C) "__setattr__" = some (some (.builtin "object.__setattr__"))) : Cls K C := ⟨h1, h2, h3, h4⟩
theorem obF_mk (hm : mg c = some (.ref C)) (h : Cls K C) (hn : PySem.W.findIn K (.ref C) n = some none) : ObF K mg c n := ⟨C, hm, h, hn⟩
theorem xf_nil : XfT K mg [] n := fun c h => absurd h List.not_mem_nil
theorem xf_cons {cs : List Str} (hm : mg c = some (.ref C)) (h1 : XfC K C) (h2 : PySem.W.findIn K (.ref C) n = some none) (h3 : XfT K mg cs n) : XfT K mg (c :: cs) n := fun x hx D hD => by
  rcases List.mem_cons.mp hx with e | hx
  · rw [e, hm] at hD
    cases hD
    exact ⟨h1, h2⟩
  · exact h3 x hx D hD
theorem xfC_mk (h1 : PySem.W.findIn K (.ref C) "__getattribute__" = some (some (.builtin "BaseException.__getattribute__"))) (h2 : PySem.W.findIn K (.ref C) "__getattr__" = some none) (h3 : PySem.W.subIn K (.ref C) (.type "BaseException") = some true) (h4 : PySem.W.hasDictIn K C = true) : XfC K C := ⟨h1, h2, h3, h4⟩
theorem oexC_mk {nm q : Str} {N : Addr} {bs bm : List Value} {sn : List Str} {sub : List Value} {ab : Bool} {col : Option Bool} {dd : Option Addr} {k0 k1 k2 k3 k5 : Option Value} (h0 : K.lookup C = some (excClassObj nm q C N bs bm true sn sub ab col dd k0 k1 k2 k3 k5 "ValueError.__new__")) (h1 : PySem.HandSPX.refsVE bm = true)
    (h2 : PySem.W.findIn K (.ref C) "__setattr__" = some (some (.builtin "object.__setattr__"))) (h3 : PySem.W.subIn K (.ref C) (.type "BaseException") = some true) (h4 : PySem.W.typeIn K (.ref C) = some (.type "type")) (h5 : PySem.W.keepIn K (.ref C) = true) : OexC K C := ⟨⟨_, _, _, _, _, _, _, _, _, _, _, _, _, _, _, h0, h1⟩, h2, h3, h4, h5⟩
theorem insK_mk (h1 : Cls K C) (h2 : PySem.W.findIn K (.ref C) "__class__" = some (some (.builtin "object.__class__"))) (h3 : PySem.W.specialIn K (.builtin "object.__class__") "__get__" = some (some (.builtin "getset_descriptor.__get__"))) (h4 : PySem.W.takesIn K (.builtin "object.__class__") = some true) (h5 : PySem.W.mroIn K C (.type "object") = some true) : InsK K C := ⟨h1, h2, h3, h4, h5⟩
theorem mem7 {P : String → Prop} (h1 : P "NoneType") (h2 : P "bool") (h3 : P "int") (h4 : P "str") (h5 : P "list") (h6 : P "tuple") (h7 : P "dict") : ∀ t ∈ ["NoneType", "bool", "int", "str", "list", "tuple", "dict"], P t := by
  intro t ht
  simp only [List.mem_cons, List.not_mem_nil, or_false] at ht
  rcases ht with rfl | rfl | rfl | rfl | rfl | rfl | rfl
  · exact h1
  · exact h2
  · exact h3
  · exact h4
  · exact h5
  · exact h6
  · exact h7
end
theorem funX_mk {K : PySem.W.Frag} {x qual : Str} {st : Stmt} {f : Addr} {oc dV kV doc pm cdv ct : Value} {od an : Option Addr} {osl : Array (Option Value)} (h : K.lookup f = some ⟨oc, od, .func (PySem.W.fnOf x qual (defArgs st) (defBody st) (defScope st) dV kV doc pm an cdv ct), osl⟩) (hc : PySem.W.codeIn K cdv qual = true) :
    FunX K x qual st f (PySem.W.fnOf x qual (defArgs st) (defBody st) (defScope st) dV kV doc pm an cdv ct) := ⟨oc, od, dV, kV, doc, pm, an, cdv, ct, osl, rfl, h, hc⟩
end DL
set_option Elab.async false
set_option linter.all false
set_option maxRecDepth 100000
set_option maxHeartbeats 2000000
/-! printed by gen.py: the end of k18. -/
namespace K18
open PySem L2 DL
theorem all_mk {Pr : Program} {w : World} {K : PySem.W.Frag} {h : Heap} {mg : Str → Option Value} {fa : Addr} (X : K.In h) (G : h.Ns mainGlobals mg) (hfa : mg "law" = some (.ref fa))
    {C_Row : Addr}
    {fa_is_integer : Addr} {od_is_integer an_is_integer : Option Addr} {sl_is_integer : Array (Option Value)} {oc_is_integer kV_is_integer dc_is_integer pm_is_integer cd_is_integer ct_is_integer : Value}
    {fa_is_between : Addr} {od_is_between an_is_between : Option Addr} {sl_is_between : Array (Option Value)} {oc_is_between kV_is_between dc_is_between pm_is_between cd_is_between ct_is_between : Value}
    {fa_are_pairs : Addr} {od_are_pairs an_are_pairs : Option Addr} {sl_are_pairs : Array (Option Value)} {oc_are_pairs kV_are_pairs dc_are_pairs pm_are_pairs cd_are_pairs ct_are_pairs : Value}
    {fa_are_capacities : Addr} {od_are_capacities an_are_capacities : Option Addr} {sl_are_capacities : Array (Option Value)} {oc_are_capacities kV_are_capacities dc_are_capacities pm_are_capacities cd_are_capacities ct_are_capacities : Value}
    {fa_are_contents : Addr} {od_are_contents an_are_contents : Option Addr} {sl_are_contents : Array (Option Value)} {oc_are_contents kV_are_contents dc_are_contents pm_are_contents cd_are_contents ct_are_contents : Value}
    {fa_Row_init : Addr} {od_Row_init an_Row_init : Option Addr} {sl_Row_init : Array (Option Value)} {oc_Row_init kV_Row_init dc_Row_init pm_Row_init cd_Row_init ct_Row_init : Value}
    {T_Row_init : Addr} {tc_Row_init : Value} {td_Row_init : Option Addr} {tn_Row_init : Nat} {tl_Row_init : Array (Option Value)}
    {e_Row_init_0 : Addr}
    {e_Row_init_1 : Addr}
    {ed_Row_init_0 : Option Addr} {en_Row_init_0 : Nat} {el_Row_init_0 : Array (Option Value)}
    {ed_Row_init_1 : Option Addr} {en_Row_init_1 : Nat} {el_Row_init_1 : Array (Option Value)}
    {fa_Row_contents : Addr} {od_Row_contents an_Row_contents : Option Addr} {sl_Row_contents : Array (Option Value)} {oc_Row_contents kV_Row_contents dc_Row_contents pm_Row_contents cd_Row_contents ct_Row_contents : Value}
    {p_Row_contents : Addr} {rs_Row_contents : List Value}
    {fa_Row_capacities : Addr} {od_Row_capacities an_Row_capacities : Option Addr} {sl_Row_capacities : Array (Option Value)} {oc_Row_capacities kV_Row_capacities dc_Row_capacities pm_Row_capacities cd_Row_capacities ct_Row_capacities : Value}
    {p_Row_capacities : Addr} {rs_Row_capacities : List Value}
    {fa_Row_held : Addr} {od_Row_held an_Row_held : Option Addr} {sl_Row_held : Array (Option Value)} {oc_Row_held kV_Row_held dc_Row_held pm_Row_held cd_Row_held ct_Row_held : Value}
    {fa_Row_capacity : Addr} {od_Row_capacity an_Row_capacity : Option Addr} {sl_Row_capacity : Array (Option Value)} {oc_Row_capacity kV_Row_capacity dc_Row_capacity pm_Row_capacity cd_Row_capacity ct_Row_capacity : Value}
    {fa_Row_total : Addr} {od_Row_total an_Row_total : Option Addr} {sl_Row_total : Array (Option Value)} {oc_Row_total kV_Row_total dc_Row_total pm_Row_total cd_Row_total ct_Row_total : Value}
    {fa_Row_eq : Addr} {od_Row_eq an_Row_eq : Option Addr} {sl_Row_eq : Array (Option Value)} {oc_Row_eq kV_Row_eq dc_Row_eq pm_Row_eq cd_Row_eq ct_Row_eq : Value}
    {fa_row_with : Addr} {od_row_with an_row_with : Option Addr} {sl_row_with : Array (Option Value)} {oc_row_with kV_row_with dc_row_with pm_row_with cd_row_with ct_row_with : Value}
    {fa_counts_of : Addr} {od_counts_of an_counts_of : Option Addr} {sl_counts_of : Array (Option Value)} {oc_counts_of kV_counts_of dc_counts_of pm_counts_of cd_counts_of ct_counts_of : Value}
    {fa_need_capacity : Addr} {od_need_capacity an_need_capacity : Option Addr} {sl_need_capacity : Array (Option Value)} {oc_need_capacity kV_need_capacity dc_need_capacity pm_need_capacity cd_need_capacity ct_need_capacity : Value}
    {fa_passage : Addr} {od_passage an_passage : Option Addr} {sl_passage : Array (Option Value)} {oc_passage kV_passage dc_passage pm_passage cd_passage ct_passage : Value}
    {fa_steps_along : Addr} {od_steps_along an_steps_along : Option Addr} {sl_steps_along : Array (Option Value)} {oc_steps_along kV_steps_along dc_steps_along pm_steps_along cd_steps_along ct_steps_along : Value}
    {fa_row_after : Addr} {od_row_after an_row_after : Option Addr} {sl_row_after : Array (Option Value)} {oc_row_after kV_row_after dc_row_after pm_row_after cd_row_after ct_row_after : Value}
    {fa_sweep : Addr} {od_sweep an_sweep : Option Addr} {sl_sweep : Array (Option Value)} {oc_sweep kV_sweep dc_sweep pm_sweep cd_sweep ct_sweep : Value}
    {fa_unsweep : Addr} {od_unsweep an_unsweep : Option Addr} {sl_unsweep : Array (Option Value)} {oc_unsweep kV_unsweep dc_unsweep pm_unsweep cd_unsweep ct_unsweep : Value}
    {fa__law_begun : Addr} {od__law_begun an__law_begun : Option Addr} {sl__law_begun : Array (Option Value)} {oc__law_begun kV__law_begun dc__law_begun pm__law_begun cd__law_begun ct__law_begun : Value}
    {fa__law_mixed : Addr} {od__law_mixed an__law_mixed : Option Addr} {sl__law_mixed : Array (Option Value)} {oc__law_mixed kV__law_mixed dc__law_mixed pm__law_mixed cd__law_mixed ct__law_mixed : Value}
    {fa__law_take : Addr} {od__law_take an__law_take : Option Addr} {sl__law_take : Array (Option Value)} {oc__law_take kV__law_take dc__law_take pm__law_take cd__law_take ct__law_take : Value}
    {fa__law_pick : Addr} {od__law_pick an__law_pick : Option Addr} {sl__law_pick : Array (Option Value)} {oc__law_pick kV__law_pick dc__law_pick pm__law_pick cd__law_pick ct__law_pick : Value}
    {fa__law_shuffled : Addr} {od__law_shuffled an__law_shuffled : Option Addr} {sl__law_shuffled : Array (Option Value)} {oc__law_shuffled kV__law_shuffled dc__law_shuffled pm__law_shuffled cd__law_shuffled ct__law_shuffled : Value}
    {fa__law_sizes : Addr} {od__law_sizes an__law_sizes : Option Addr} {sl__law_sizes : Array (Option Value)} {oc__law_sizes kV__law_sizes dc__law_sizes pm__law_sizes cd__law_sizes ct__law_sizes : Value}
    {fa__law_boxes : Addr} {od__law_boxes an__law_boxes : Option Addr} {sl__law_boxes : Array (Option Value)} {oc__law_boxes kV__law_boxes dc__law_boxes pm__law_boxes cd__law_boxes ct__law_boxes : Value}
    {fa__law_crowd : Addr} {od__law_crowd an__law_crowd : Option Addr} {sl__law_crowd : Array (Option Value)} {oc__law_crowd kV__law_crowd dc__law_crowd pm__law_crowd cd__law_crowd ct__law_crowd : Value}
    {fa__law_made : Addr} {od__law_made an__law_made : Option Addr} {sl__law_made : Array (Option Value)} {oc__law_made kV__law_made dc__law_made pm__law_made cd__law_made ct__law_made : Value}
    {fa__law_done : Addr} {od__law_done an__law_done : Option Addr} {sl__law_done : Array (Option Value)} {oc__law_done kV__law_done dc__law_done pm__law_done cd__law_done ct__law_done : Value}
    {fa_law : Addr} {od_law an_law : Option Addr} {sl_law : Array (Option Value)} {oc_law kV_law dc_law pm_law cd_law ct_law : Value}
    {tk_FARTHEST : Tok}
    {tk_GREATEST_CAPACITY : Tok}
    {tk_MOST_ITEMS : Tok}
    {tk_MOST_WIDE : Tok}
    {tk_NARROWEST : Tok}
    {tk_WIDEST : Tok}
    {C_BadCapacity : Addr}
    {C_BadIndex : Addr}
    {C_BadRow : Addr}
    {nm_BadRow qn_BadRow : Str} {N_BadRow : Addr} {bs_BadRow bm_BadRow : List Value} {sn_BadRow : List Str} {sub_BadRow : List Value} {ab_BadRow : Bool} {col_BadRow : Option Bool} {dd_BadRow : Option Addr} {k0_BadRow k1_BadRow k2_BadRow k3_BadRow k5_BadRow : Option Value}
    {fa_BadRow_init : Addr} {od_BadRow_init an_BadRow_init : Option Addr} {sl_BadRow_init : Array (Option Value)} {oc_BadRow_init kV_BadRow_init dc_BadRow_init pm_BadRow_init cd_BadRow_init ct_BadRow_init : Value}
    {C_ScoopError : Addr}
    (gc_Row : PySem.W.nsIn K mainGlobals "Row" = some (some (.ref C_Row)))
    (pg_Row : PySem.W.plainGet K C_Row Str.empty = true)
    (hd_Row : PySem.W.hasDictIn K C_Row = true)
    (po_Row : PySem.W.plainOver K C_Row = true)
    (sa_Row : PySem.W.findIn K (.ref C_Row) "__setattr__" = some (some (.builtin "object.__setattr__")))
    (mk_Row : PySem.W.makesIn K C_Row = true)
    (kc_Row : PySem.W.keepIn K (.ref C_Row) = true)
    (ne_Row : PySem.W.findIn K (.ref C_Row) "__ne__" = some (some (.builtin "object.__ne__")))
    (sp_Row_NoneType : PySem.W.subIn K (.type "NoneType") (.ref C_Row) = some false)
    (sp_Row_bool : PySem.W.subIn K (.type "bool") (.ref C_Row) = some false)
    (sp_Row_int : PySem.W.subIn K (.type "int") (.ref C_Row) = some false)
    (sp_Row_str : PySem.W.subIn K (.type "str") (.ref C_Row) = some false)
    (sp_Row_list : PySem.W.subIn K (.type "list") (.ref C_Row) = some false)
    (sp_Row_tuple : PySem.W.subIn K (.type "tuple") (.ref C_Row) = some false)
    (sp_Row_dict : PySem.W.subIn K (.type "dict") (.ref C_Row) = some false)
    (mr_Row : PySem.W.mroIn K C_Row (.type "object") = some true)
    (ca_Row : PySem.W.findIn K (.ref C_Row) "__class__" = some (some (.builtin "object.__class__")))
    (cl_Row : PySem.W.isClsIn K C_Row = true)
    (ty_Row : PySem.W.typeIn K (.ref C_Row) = some (.type "type"))
    (sb_Row_Row : PySem.W.subIn K (.ref C_Row) (.ref C_Row) = some true)
    (nd : PySem.W.specialIn K (.builtin "object.__class__") "__get__" = some (some (.builtin "getset_descriptor.__get__")))
    (tkc : PySem.W.takesIn K (.builtin "object.__class__") = some true)
    (na_Row_r_counts : PySem.W.findIn K (.ref C_Row) "r_counts" = some none)
    (na_Row_r_sizes : PySem.W.findIn K (.ref C_Row) "r_sizes" = some none)
    (a_is_integer : PySem.W.nsIn K mainGlobals "is_integer" = some (some (.ref fa_is_integer)))
    (l_is_integer : K.lookup fa_is_integer = some ⟨oc_is_integer, od_is_integer, .func (PySem.W.fnOf "is_integer" "is_integer" (defArgs s_is_integer) (defBody s_is_integer) (defScope s_is_integer) .none kV_is_integer dc_is_integer pm_is_integer an_is_integer cd_is_integer ct_is_integer), sl_is_integer⟩)
    (c_is_integer : PySem.W.codeIn K cd_is_integer "is_integer" = true)
    (k_is_integer : PySem.W.keepIn K (.ref fa_is_integer) = true)
    (a_is_between : PySem.W.nsIn K mainGlobals "is_between" = some (some (.ref fa_is_between)))
    (l_is_between : K.lookup fa_is_between = some ⟨oc_is_between, od_is_between, .func (PySem.W.fnOf "is_between" "is_between" (defArgs s_is_between) (defBody s_is_between) (defScope s_is_between) .none kV_is_between dc_is_between pm_is_between an_is_between cd_is_between ct_is_between), sl_is_between⟩)
    (c_is_between : PySem.W.codeIn K cd_is_between "is_between" = true)
    (k_is_between : PySem.W.keepIn K (.ref fa_is_between) = true)
    (a_are_pairs : PySem.W.nsIn K mainGlobals "are_pairs" = some (some (.ref fa_are_pairs)))
    (l_are_pairs : K.lookup fa_are_pairs = some ⟨oc_are_pairs, od_are_pairs, .func (PySem.W.fnOf "are_pairs" "are_pairs" (defArgs s_are_pairs) (defBody s_are_pairs) (defScope s_are_pairs) .none kV_are_pairs dc_are_pairs pm_are_pairs an_are_pairs cd_are_pairs ct_are_pairs), sl_are_pairs⟩)
    (c_are_pairs : PySem.W.codeIn K cd_are_pairs "are_pairs" = true)
    (k_are_pairs : PySem.W.keepIn K (.ref fa_are_pairs) = true)
    (a_are_capacities : PySem.W.nsIn K mainGlobals "are_capacities" = some (some (.ref fa_are_capacities)))
    (l_are_capacities : K.lookup fa_are_capacities = some ⟨oc_are_capacities, od_are_capacities, .func (PySem.W.fnOf "are_capacities" "are_capacities" (defArgs s_are_capacities) (defBody s_are_capacities) (defScope s_are_capacities) .none kV_are_capacities dc_are_capacities pm_are_capacities an_are_capacities cd_are_capacities ct_are_capacities), sl_are_capacities⟩)
    (c_are_capacities : PySem.W.codeIn K cd_are_capacities "are_capacities" = true)
    (k_are_capacities : PySem.W.keepIn K (.ref fa_are_capacities) = true)
    (a_are_contents : PySem.W.nsIn K mainGlobals "are_contents" = some (some (.ref fa_are_contents)))
    (l_are_contents : K.lookup fa_are_contents = some ⟨oc_are_contents, od_are_contents, .func (PySem.W.fnOf "are_contents" "are_contents" (defArgs s_are_contents) (defBody s_are_contents) (defScope s_are_contents) .none kV_are_contents dc_are_contents pm_are_contents an_are_contents cd_are_contents ct_are_contents), sl_are_contents⟩)
    (c_are_contents : PySem.W.codeIn K cd_are_contents "are_contents" = true)
    (k_are_contents : PySem.W.keepIn K (.ref fa_are_contents) = true)
    (a_Row_init : PySem.W.findIn K (.ref C_Row) "__init__" = some (some (.ref fa_Row_init)))
    (fn_Row_init : PySem.W.isFn K (.ref fa_Row_init) = true)
    (l_Row_init : K.lookup fa_Row_init = some ⟨oc_Row_init, od_Row_init, .func (PySem.W.fnOf "__init__" "Row.__init__" (defArgs s_Row_init) (defBody s_Row_init) (defScope s_Row_init) (.ref T_Row_init) kV_Row_init dc_Row_init pm_Row_init an_Row_init cd_Row_init ct_Row_init), sl_Row_init⟩)
    (c_Row_init : PySem.W.codeIn K cd_Row_init "Row.__init__" = true)
    (d_Row_init : K.lookup T_Row_init = some ⟨tc_Row_init, td_Row_init, .seq ([.ref e_Row_init_0, .ref e_Row_init_1] : List Value).toArray tn_Row_init, tl_Row_init⟩)
    (e_Row_init_0_ : K.lookup e_Row_init_0 = some ⟨.type "tuple", ed_Row_init_0, .seq #[] en_Row_init_0, el_Row_init_0⟩)
    (e_Row_init_1_ : K.lookup e_Row_init_1 = some ⟨.type "tuple", ed_Row_init_1, .seq #[] en_Row_init_1, el_Row_init_1⟩)
    (a_Row_contents : PySem.W.findIn K (.ref C_Row) "contents" = some (some (.ref p_Row_contents)))
    (ge_Row_contents : PySem.W.specialIn K (.ref p_Row_contents) "__get__" = some (some (.builtin "property.__get__")))
    (tk_Row_contents : PySem.W.takesIn K (.ref p_Row_contents) = some true)
    (rc_Row_contents : PySem.W.recIn K p_Row_contents "property" = some (.ref fa_Row_contents :: rs_Row_contents))
    (l_Row_contents : K.lookup fa_Row_contents = some ⟨oc_Row_contents, od_Row_contents, .func (PySem.W.fnOf "contents" "Row.contents" (defArgs s_Row_contents) (defBody s_Row_contents) (defScope s_Row_contents) .none kV_Row_contents dc_Row_contents pm_Row_contents an_Row_contents cd_Row_contents ct_Row_contents), sl_Row_contents⟩)
    (c_Row_contents : PySem.W.codeIn K cd_Row_contents "Row.contents" = true)
    (a_Row_capacities : PySem.W.findIn K (.ref C_Row) "capacities" = some (some (.ref p_Row_capacities)))
    (ge_Row_capacities : PySem.W.specialIn K (.ref p_Row_capacities) "__get__" = some (some (.builtin "property.__get__")))
    (tk_Row_capacities : PySem.W.takesIn K (.ref p_Row_capacities) = some true)
    (rc_Row_capacities : PySem.W.recIn K p_Row_capacities "property" = some (.ref fa_Row_capacities :: rs_Row_capacities))
    (l_Row_capacities : K.lookup fa_Row_capacities = some ⟨oc_Row_capacities, od_Row_capacities, .func (PySem.W.fnOf "capacities" "Row.capacities" (defArgs s_Row_capacities) (defBody s_Row_capacities) (defScope s_Row_capacities) .none kV_Row_capacities dc_Row_capacities pm_Row_capacities an_Row_capacities cd_Row_capacities ct_Row_capacities), sl_Row_capacities⟩)
    (c_Row_capacities : PySem.W.codeIn K cd_Row_capacities "Row.capacities" = true)
    (a_Row_held : PySem.W.findIn K (.ref C_Row) "held" = some (some (.ref fa_Row_held)))
    (fn_Row_held : PySem.W.isFn K (.ref fa_Row_held) = true)
    (k_Row_held : PySem.W.keepIn K (.ref fa_Row_held) = true)
    (l_Row_held : K.lookup fa_Row_held = some ⟨oc_Row_held, od_Row_held, .func (PySem.W.fnOf "held" "Row.held" (defArgs s_Row_held) (defBody s_Row_held) (defScope s_Row_held) .none kV_Row_held dc_Row_held pm_Row_held an_Row_held cd_Row_held ct_Row_held), sl_Row_held⟩)
    (c_Row_held : PySem.W.codeIn K cd_Row_held "Row.held" = true)
    (a_Row_capacity : PySem.W.findIn K (.ref C_Row) "capacity" = some (some (.ref fa_Row_capacity)))
    (fn_Row_capacity : PySem.W.isFn K (.ref fa_Row_capacity) = true)
    (k_Row_capacity : PySem.W.keepIn K (.ref fa_Row_capacity) = true)
    (l_Row_capacity : K.lookup fa_Row_capacity = some ⟨oc_Row_capacity, od_Row_capacity, .func (PySem.W.fnOf "capacity" "Row.capacity" (defArgs s_Row_capacity) (defBody s_Row_capacity) (defScope s_Row_capacity) .none kV_Row_capacity dc_Row_capacity pm_Row_capacity an_Row_capacity cd_Row_capacity ct_Row_capacity), sl_Row_capacity⟩)
    (c_Row_capacity : PySem.W.codeIn K cd_Row_capacity "Row.capacity" = true)
    (a_Row_total : PySem.W.findIn K (.ref C_Row) "total" = some (some (.ref fa_Row_total)))
    (fn_Row_total : PySem.W.isFn K (.ref fa_Row_total) = true)
    (k_Row_total : PySem.W.keepIn K (.ref fa_Row_total) = true)
    (l_Row_total : K.lookup fa_Row_total = some ⟨oc_Row_total, od_Row_total, .func (PySem.W.fnOf "total" "Row.total" (defArgs s_Row_total) (defBody s_Row_total) (defScope s_Row_total) .none kV_Row_total dc_Row_total pm_Row_total an_Row_total cd_Row_total ct_Row_total), sl_Row_total⟩)
    (c_Row_total : PySem.W.codeIn K cd_Row_total "Row.total" = true)
    (a_Row_eq : PySem.W.findIn K (.ref C_Row) "__eq__" = some (some (.ref fa_Row_eq)))
    (fn_Row_eq : PySem.W.isFn K (.ref fa_Row_eq) = true)
    (l_Row_eq : K.lookup fa_Row_eq = some ⟨oc_Row_eq, od_Row_eq, .func (PySem.W.fnOf "__eq__" "Row.__eq__" (defArgs s_Row_eq) (defBody s_Row_eq) (defScope s_Row_eq) .none kV_Row_eq dc_Row_eq pm_Row_eq an_Row_eq cd_Row_eq ct_Row_eq), sl_Row_eq⟩)
    (c_Row_eq : PySem.W.codeIn K cd_Row_eq "Row.__eq__" = true)
    (a_row_with : PySem.W.nsIn K mainGlobals "row_with" = some (some (.ref fa_row_with)))
    (l_row_with : K.lookup fa_row_with = some ⟨oc_row_with, od_row_with, .func (PySem.W.fnOf "row_with" "row_with" (defArgs s_row_with) (defBody s_row_with) (defScope s_row_with) .none kV_row_with dc_row_with pm_row_with an_row_with cd_row_with ct_row_with), sl_row_with⟩)
    (c_row_with : PySem.W.codeIn K cd_row_with "row_with" = true)
    (k_row_with : PySem.W.keepIn K (.ref fa_row_with) = true)
    (a_counts_of : PySem.W.nsIn K mainGlobals "counts_of" = some (some (.ref fa_counts_of)))
    (l_counts_of : K.lookup fa_counts_of = some ⟨oc_counts_of, od_counts_of, .func (PySem.W.fnOf "counts_of" "counts_of" (defArgs s_counts_of) (defBody s_counts_of) (defScope s_counts_of) .none kV_counts_of dc_counts_of pm_counts_of an_counts_of cd_counts_of ct_counts_of), sl_counts_of⟩)
    (c_counts_of : PySem.W.codeIn K cd_counts_of "counts_of" = true)
    (k_counts_of : PySem.W.keepIn K (.ref fa_counts_of) = true)
    (a_need_capacity : PySem.W.nsIn K mainGlobals "need_capacity" = some (some (.ref fa_need_capacity)))
    (l_need_capacity : K.lookup fa_need_capacity = some ⟨oc_need_capacity, od_need_capacity, .func (PySem.W.fnOf "need_capacity" "need_capacity" (defArgs s_need_capacity) (defBody s_need_capacity) (defScope s_need_capacity) .none kV_need_capacity dc_need_capacity pm_need_capacity an_need_capacity cd_need_capacity ct_need_capacity), sl_need_capacity⟩)
    (c_need_capacity : PySem.W.codeIn K cd_need_capacity "need_capacity" = true)
    (k_need_capacity : PySem.W.keepIn K (.ref fa_need_capacity) = true)
    (a_passage : PySem.W.nsIn K mainGlobals "passage" = some (some (.ref fa_passage)))
    (l_passage : K.lookup fa_passage = some ⟨oc_passage, od_passage, .func (PySem.W.fnOf "passage" "passage" (defArgs s_passage) (defBody s_passage) (defScope s_passage) .none kV_passage dc_passage pm_passage an_passage cd_passage ct_passage), sl_passage⟩)
    (c_passage : PySem.W.codeIn K cd_passage "passage" = true)
    (k_passage : PySem.W.keepIn K (.ref fa_passage) = true)
    (a_steps_along : PySem.W.nsIn K mainGlobals "steps_along" = some (some (.ref fa_steps_along)))
    (l_steps_along : K.lookup fa_steps_along = some ⟨oc_steps_along, od_steps_along, .func (PySem.W.fnOf "steps_along" "steps_along" (defArgs s_steps_along) (defBody s_steps_along) (defScope s_steps_along) .none kV_steps_along dc_steps_along pm_steps_along an_steps_along cd_steps_along ct_steps_along), sl_steps_along⟩)
    (c_steps_along : PySem.W.codeIn K cd_steps_along "steps_along" = true)
    (k_steps_along : PySem.W.keepIn K (.ref fa_steps_along) = true)
    (a_row_after : PySem.W.nsIn K mainGlobals "row_after" = some (some (.ref fa_row_after)))
    (l_row_after : K.lookup fa_row_after = some ⟨oc_row_after, od_row_after, .func (PySem.W.fnOf "row_after" "row_after" (defArgs s_row_after) (defBody s_row_after) (defScope s_row_after) .none kV_row_after dc_row_after pm_row_after an_row_after cd_row_after ct_row_after), sl_row_after⟩)
    (c_row_after : PySem.W.codeIn K cd_row_after "row_after" = true)
    (k_row_after : PySem.W.keepIn K (.ref fa_row_after) = true)
    (a_sweep : PySem.W.nsIn K mainGlobals "sweep" = some (some (.ref fa_sweep)))
    (l_sweep : K.lookup fa_sweep = some ⟨oc_sweep, od_sweep, .func (PySem.W.fnOf "sweep" "sweep" (defArgs s_sweep) (defBody s_sweep) (defScope s_sweep) .none kV_sweep dc_sweep pm_sweep an_sweep cd_sweep ct_sweep), sl_sweep⟩)
    (c_sweep : PySem.W.codeIn K cd_sweep "sweep" = true)
    (k_sweep : PySem.W.keepIn K (.ref fa_sweep) = true)
    (a_unsweep : PySem.W.nsIn K mainGlobals "unsweep" = some (some (.ref fa_unsweep)))
    (l_unsweep : K.lookup fa_unsweep = some ⟨oc_unsweep, od_unsweep, .func (PySem.W.fnOf "unsweep" "unsweep" (defArgs s_unsweep) (defBody s_unsweep) (defScope s_unsweep) .none kV_unsweep dc_unsweep pm_unsweep an_unsweep cd_unsweep ct_unsweep), sl_unsweep⟩)
    (c_unsweep : PySem.W.codeIn K cd_unsweep "unsweep" = true)
    (k_unsweep : PySem.W.keepIn K (.ref fa_unsweep) = true)
    (a__law_begun : PySem.W.nsIn K mainGlobals "_law_begun" = some (some (.ref fa__law_begun)))
    (l__law_begun : K.lookup fa__law_begun = some ⟨oc__law_begun, od__law_begun, .func (PySem.W.fnOf "_law_begun" "_law_begun" (defArgs s__law_begun) (defBody s__law_begun) (defScope s__law_begun) .none kV__law_begun dc__law_begun pm__law_begun an__law_begun cd__law_begun ct__law_begun), sl__law_begun⟩)
    (c__law_begun : PySem.W.codeIn K cd__law_begun "_law_begun" = true)
    (k__law_begun : PySem.W.keepIn K (.ref fa__law_begun) = true)
    (a__law_mixed : PySem.W.nsIn K mainGlobals "_law_mixed" = some (some (.ref fa__law_mixed)))
    (l__law_mixed : K.lookup fa__law_mixed = some ⟨oc__law_mixed, od__law_mixed, .func (PySem.W.fnOf "_law_mixed" "_law_mixed" (defArgs s__law_mixed) (defBody s__law_mixed) (defScope s__law_mixed) .none kV__law_mixed dc__law_mixed pm__law_mixed an__law_mixed cd__law_mixed ct__law_mixed), sl__law_mixed⟩)
    (c__law_mixed : PySem.W.codeIn K cd__law_mixed "_law_mixed" = true)
    (k__law_mixed : PySem.W.keepIn K (.ref fa__law_mixed) = true)
    (a__law_take : PySem.W.nsIn K mainGlobals "_law_take" = some (some (.ref fa__law_take)))
    (l__law_take : K.lookup fa__law_take = some ⟨oc__law_take, od__law_take, .func (PySem.W.fnOf "_law_take" "_law_take" (defArgs s__law_take) (defBody s__law_take) (defScope s__law_take) .none kV__law_take dc__law_take pm__law_take an__law_take cd__law_take ct__law_take), sl__law_take⟩)
    (c__law_take : PySem.W.codeIn K cd__law_take "_law_take" = true)
    (k__law_take : PySem.W.keepIn K (.ref fa__law_take) = true)
    (a__law_pick : PySem.W.nsIn K mainGlobals "_law_pick" = some (some (.ref fa__law_pick)))
    (l__law_pick : K.lookup fa__law_pick = some ⟨oc__law_pick, od__law_pick, .func (PySem.W.fnOf "_law_pick" "_law_pick" (defArgs s__law_pick) (defBody s__law_pick) (defScope s__law_pick) .none kV__law_pick dc__law_pick pm__law_pick an__law_pick cd__law_pick ct__law_pick), sl__law_pick⟩)
    (c__law_pick : PySem.W.codeIn K cd__law_pick "_law_pick" = true)
    (k__law_pick : PySem.W.keepIn K (.ref fa__law_pick) = true)
    (a__law_shuffled : PySem.W.nsIn K mainGlobals "_law_shuffled" = some (some (.ref fa__law_shuffled)))
    (l__law_shuffled : K.lookup fa__law_shuffled = some ⟨oc__law_shuffled, od__law_shuffled, .func (PySem.W.fnOf "_law_shuffled" "_law_shuffled" (defArgs s__law_shuffled) (defBody s__law_shuffled) (defScope s__law_shuffled) .none kV__law_shuffled dc__law_shuffled pm__law_shuffled an__law_shuffled cd__law_shuffled ct__law_shuffled), sl__law_shuffled⟩)
    (c__law_shuffled : PySem.W.codeIn K cd__law_shuffled "_law_shuffled" = true)
    (k__law_shuffled : PySem.W.keepIn K (.ref fa__law_shuffled) = true)
    (a__law_sizes : PySem.W.nsIn K mainGlobals "_law_sizes" = some (some (.ref fa__law_sizes)))
    (l__law_sizes : K.lookup fa__law_sizes = some ⟨oc__law_sizes, od__law_sizes, .func (PySem.W.fnOf "_law_sizes" "_law_sizes" (defArgs s__law_sizes) (defBody s__law_sizes) (defScope s__law_sizes) .none kV__law_sizes dc__law_sizes pm__law_sizes an__law_sizes cd__law_sizes ct__law_sizes), sl__law_sizes⟩)
    (c__law_sizes : PySem.W.codeIn K cd__law_sizes "_law_sizes" = true)
    (k__law_sizes : PySem.W.keepIn K (.ref fa__law_sizes) = true)
    (a__law_boxes : PySem.W.nsIn K mainGlobals "_law_boxes" = some (some (.ref fa__law_boxes)))
    (l__law_boxes : K.lookup fa__law_boxes = some ⟨oc__law_boxes, od__law_boxes, .func (PySem.W.fnOf "_law_boxes" "_law_boxes" (defArgs s__law_boxes) (defBody s__law_boxes) (defScope s__law_boxes) .none kV__law_boxes dc__law_boxes pm__law_boxes an__law_boxes cd__law_boxes ct__law_boxes), sl__law_boxes⟩)
    (c__law_boxes : PySem.W.codeIn K cd__law_boxes "_law_boxes" = true)
    (k__law_boxes : PySem.W.keepIn K (.ref fa__law_boxes) = true)
    (a__law_crowd : PySem.W.nsIn K mainGlobals "_law_crowd" = some (some (.ref fa__law_crowd)))
    (l__law_crowd : K.lookup fa__law_crowd = some ⟨oc__law_crowd, od__law_crowd, .func (PySem.W.fnOf "_law_crowd" "_law_crowd" (defArgs s__law_crowd) (defBody s__law_crowd) (defScope s__law_crowd) .none kV__law_crowd dc__law_crowd pm__law_crowd an__law_crowd cd__law_crowd ct__law_crowd), sl__law_crowd⟩)
    (c__law_crowd : PySem.W.codeIn K cd__law_crowd "_law_crowd" = true)
    (k__law_crowd : PySem.W.keepIn K (.ref fa__law_crowd) = true)
    (a__law_made : PySem.W.nsIn K mainGlobals "_law_made" = some (some (.ref fa__law_made)))
    (l__law_made : K.lookup fa__law_made = some ⟨oc__law_made, od__law_made, .func (PySem.W.fnOf "_law_made" "_law_made" (defArgs s__law_made) (defBody s__law_made) (defScope s__law_made) .none kV__law_made dc__law_made pm__law_made an__law_made cd__law_made ct__law_made), sl__law_made⟩)
    (c__law_made : PySem.W.codeIn K cd__law_made "_law_made" = true)
    (k__law_made : PySem.W.keepIn K (.ref fa__law_made) = true)
    (a__law_done : PySem.W.nsIn K mainGlobals "_law_done" = some (some (.ref fa__law_done)))
    (l__law_done : K.lookup fa__law_done = some ⟨oc__law_done, od__law_done, .func (PySem.W.fnOf "_law_done" "_law_done" (defArgs s__law_done) (defBody s__law_done) (defScope s__law_done) .none kV__law_done dc__law_done pm__law_done an__law_done cd__law_done ct__law_done), sl__law_done⟩)
    (c__law_done : PySem.W.codeIn K cd__law_done "_law_done" = true)
    (k__law_done : PySem.W.keepIn K (.ref fa__law_done) = true)
    (a_law : PySem.W.nsIn K mainGlobals "law" = some (some (.ref fa_law)))
    (l_law : K.lookup fa_law = some ⟨oc_law, od_law, .func (PySem.W.fnOf "law" "law" (defArgs s_law) (defBody s_law) (defScope s_law) .none kV_law dc_law pm_law an_law cd_law ct_law), sl_law⟩)
    (c_law : PySem.W.codeIn K cd_law "law" = true)
    (k_law : PySem.W.keepIn K (.ref fa_law) = true)
    (g_FARTHEST : PySem.W.nsIn K mainGlobals "FARTHEST" = some (some (.int 60 tk_FARTHEST)))
    (g_GREATEST_CAPACITY : PySem.W.nsIn K mainGlobals "GREATEST_CAPACITY" = some (some (.int 99 tk_GREATEST_CAPACITY)))
    (g_MOST_ITEMS : PySem.W.nsIn K mainGlobals "MOST_ITEMS" = some (some (.int 40 tk_MOST_ITEMS)))
    (g_MOST_WIDE : PySem.W.nsIn K mainGlobals "MOST_WIDE" = some (some (.int 6 tk_MOST_WIDE)))
    (g_NARROWEST : PySem.W.nsIn K mainGlobals "NARROWEST" = some (some (.int 2 tk_NARROWEST)))
    (g_WIDEST : PySem.W.nsIn K mainGlobals "WIDEST" = some (some (.int 9 tk_WIDEST)))
    (z_all : PySem.W.nsIn K mainGlobals "all" = some none)
    (z_bool : PySem.W.nsIn K mainGlobals "bool" = some none)
    (z_dict : PySem.W.nsIn K mainGlobals "dict" = some none)
    (z_int : PySem.W.nsIn K mainGlobals "int" = some none)
    (z_isinstance : PySem.W.nsIn K mainGlobals "isinstance" = some none)
    (z_len : PySem.W.nsIn K mainGlobals "len" = some none)
    (z_list : PySem.W.nsIn K mainGlobals "list" = some none)
    (z_min : PySem.W.nsIn K mainGlobals "min" = some none)
    (z_range : PySem.W.nsIn K mainGlobals "range" = some none)
    (z_set : PySem.W.nsIn K mainGlobals "set" = some none)
    (z_sorted : PySem.W.nsIn K mainGlobals "sorted" = some none)
    (z_sum : PySem.W.nsIn K mainGlobals "sum" = some none)
    (z_tuple : PySem.W.nsIn K mainGlobals "tuple" = some none)
    (gc_BadCapacity : PySem.W.nsIn K mainGlobals "BadCapacity" = some (some (.ref C_BadCapacity)))
    (su_BadCapacity : PySem.W.subIn K (.ref C_BadCapacity) (.type "BaseException") = some true)
    (ty_BadCapacity : PySem.W.typeIn K (.ref C_BadCapacity) = some (.type "type"))
    (gc_BadIndex : PySem.W.nsIn K mainGlobals "BadIndex" = some (some (.ref C_BadIndex)))
    (su_BadIndex : PySem.W.subIn K (.ref C_BadIndex) (.type "BaseException") = some true)
    (ty_BadIndex : PySem.W.typeIn K (.ref C_BadIndex) = some (.type "type"))
    (gc_BadRow : PySem.W.nsIn K mainGlobals "BadRow" = some (some (.ref C_BadRow)))
    (su_BadRow : PySem.W.subIn K (.ref C_BadRow) (.type "BaseException") = some true)
    (ty_BadRow : PySem.W.typeIn K (.ref C_BadRow) = some (.type "type"))
    (oc_BadRow : K.lookup C_BadRow = some (excClassObj nm_BadRow qn_BadRow C_BadRow N_BadRow bs_BadRow bm_BadRow true sn_BadRow sub_BadRow ab_BadRow col_BadRow dd_BadRow k0_BadRow k1_BadRow k2_BadRow k3_BadRow k5_BadRow "ValueError.__new__"))
    (rv_BadRow : PySem.HandSPX.refsVE bm_BadRow = true)
    (sa_BadRow : PySem.W.findIn K (.ref C_BadRow) "__setattr__" = some (some (.builtin "object.__setattr__")))
    (kc_BadRow : PySem.W.keepIn K (.ref C_BadRow) = true)
    (a_BadRow_init : PySem.W.findIn K (.ref C_BadRow) "__init__" = some (some (.ref fa_BadRow_init)))
    (ft_BadRow_init : PySem.W.typeIn K (.ref fa_BadRow_init) = some (.type "function"))
    (l_BadRow_init : K.lookup fa_BadRow_init = some ⟨oc_BadRow_init, od_BadRow_init, .func (PySem.W.fnOf "__init__" "BadRow.__init__" (defArgs s_BadRow_init) (defBody s_BadRow_init) (defScope s_BadRow_init) .none kV_BadRow_init dc_BadRow_init pm_BadRow_init an_BadRow_init cd_BadRow_init ct_BadRow_init), sl_BadRow_init⟩)
    (c_BadRow_init : PySem.W.codeIn K cd_BadRow_init "BadRow.__init__" = true)
    (no_BadRow : PySem.W.findIn K (.ref C_BadRow) "field" = some none)
    (gc_ScoopError : PySem.W.nsIn K mainGlobals "ScoopError" = some (some (.ref C_ScoopError)))
    (rd_ScoopError : PySem.W.readsIn K C_ScoopError (.type "type") = true)
    (sg_ScoopError : PySem.W.specialIn K (.ref C_ScoopError) "__getattribute__" = some (some (.builtin "type.__getattribute__")))
    (fc_ScoopError : PySem.W.findCls K (.ref C_ScoopError) (.type "type") "__init__" = some (.val (.builtin "ValueError.__init__")))
    (ex_BadCapacity : PySem.W.excIn K C_BadCapacity [.type "ValueError", .type "Exception", .type "BaseException", .type "object"] "ValueError.__new__" = true)
    (kc_BadCapacity : PySem.W.keepIn K (.ref C_BadCapacity) = true)
    (ex_BadIndex : PySem.W.excIn K C_BadIndex [.type "ValueError", .type "Exception", .type "BaseException", .type "object"] "ValueError.__new__" = true)
    (kc_BadIndex : PySem.W.keepIn K (.ref C_BadIndex) = true) :
    ∃ fd : FuncData, (∀ (s : Shared) (v : Value), BindsTo s fd ⟨[v], []⟩ [("script", v)]) ∧ ∀ base : Heap, K.In base → base.Ns mainGlobals mg → FnG Pr w K mg base (L2.CX Pr w) 10 fa fd ["script"] (spD K mg 1 f_law) := by
  have e := hfa.symm.trans (PySem.W.mg_of X G a_law)
  cases e
  have Cl_Row : Cls K C_Row := cls_mk pg_Row hd_Row po_Row sa_Row
  have T : Txt K mg := {
    z_all := PySem.W.mg_none_of X G z_all
    z_bool := PySem.W.mg_none_of X G z_bool
    z_dict := PySem.W.mg_none_of X G z_dict
    z_int := PySem.W.mg_none_of X G z_int
    z_isinstance := PySem.W.mg_none_of X G z_isinstance
    z_len := PySem.W.mg_none_of X G z_len
    z_list := PySem.W.mg_none_of X G z_list
    z_min := PySem.W.mg_none_of X G z_min
    z_range := PySem.W.mg_none_of X G z_range
    z_set := PySem.W.mg_none_of X G z_set
    z_sorted := PySem.W.mg_none_of X G z_sorted
    z_sum := PySem.W.mg_none_of X G z_sum
    z_tuple := PySem.W.mg_none_of X G z_tuple
    c_FARTHEST := ⟨_, PySem.W.mg_of X G g_FARTHEST⟩
    c_GREATEST_CAPACITY := ⟨_, PySem.W.mg_of X G g_GREATEST_CAPACITY⟩
    c_MOST_ITEMS := ⟨_, PySem.W.mg_of X G g_MOST_ITEMS⟩
    c_MOST_WIDE := ⟨_, PySem.W.mg_of X G g_MOST_WIDE⟩
    c_NARROWEST := ⟨_, PySem.W.mg_of X G g_NARROWEST⟩
    c_WIDEST := ⟨_, PySem.W.mg_of X G g_WIDEST⟩
    of_Row_r_counts := obF_mk (PySem.W.mg_of X G gc_Row) Cl_Row na_Row_r_counts
    of_Row_r_sizes := obF_mk (PySem.W.mg_of X G gc_Row) Cl_Row na_Row_r_sizes
    io_Row := ⟨_, PySem.W.mg_of X G gc_Row, tb_nil, tb_cons (mg_at (PySem.W.mg_of X G gc_Row) ⟨insK_mk Cl_Row ca_Row nd tkc mr_Row, kit_ref cl_Row ty_Row sb_Row_Row (fun _ => rfl)⟩) (tb_nil), mem7 (kit_plain cl_Row ty_Row sp_Row_NoneType) (kit_plain cl_Row ty_Row sp_Row_bool) (kit_plain cl_Row ty_Row sp_Row_int) (kit_plain cl_Row ty_Row sp_Row_str) (kit_plain cl_Row ty_Row sp_Row_list) (kit_plain cl_Row ty_Row sp_Row_tuple) (kit_plain cl_Row ty_Row sp_Row_dict)⟩
    x_BadCapacity := excR_mk (PySem.W.mg_of X G gc_BadCapacity) ex_BadCapacity kc_BadCapacity su_BadCapacity ty_BadCapacity
    x_BadIndex := excR_mk (PySem.W.mg_of X G gc_BadIndex) ex_BadIndex kc_BadIndex su_BadIndex ty_BadIndex }
  have O_BadRow : OexC K C_BadRow := oexC_mk oc_BadRow rv_BadRow sa_BadRow su_BadRow ty_BadRow kc_BadRow
  have F_BadRow_init := funX_mk (st := s_BadRow_init) l_BadRow_init c_BadRow_init
  have F_is_integer := fun_mk (st := s_is_integer) l_is_integer c_is_integer k_is_integer
  have b_is_integer := F_is_integer.binds (ps := ["value"]) fun _ _ _ _ _ _ us hl => match us, hl with | [_], _ => rfl
  have F_is_between := fun_mk (st := s_is_between) l_is_between c_is_between k_is_between
  have b_is_between := F_is_between.binds (ps := ["value", "least", "greatest"]) fun _ _ _ _ _ _ us hl => match us, hl with | [_, _, _], _ => rfl
  have F_are_pairs := fun_mk (st := s_are_pairs) l_are_pairs c_are_pairs k_are_pairs
  have b_are_pairs := F_are_pairs.binds (ps := ["value"]) fun _ _ _ _ _ _ us hl => match us, hl with | [_], _ => rfl
  have F_are_capacities := fun_mk (st := s_are_capacities) l_are_capacities c_are_capacities k_are_capacities
  have b_are_capacities := F_are_capacities.binds (ps := ["value"]) fun _ _ _ _ _ _ us hl => match us, hl with | [_], _ => rfl
  have F_are_contents := fun_mk (st := s_are_contents) l_are_contents c_are_contents k_are_contents
  have b_are_contents := F_are_contents.binds (ps := ["value", "capacities"]) fun _ _ _ _ _ _ us hl => match us, hl with | [_, _], _ => rfl
  have F_Row_init := funX_mk (st := s_Row_init) l_Row_init c_Row_init
  have F_Row_contents := funX_mk (st := s_Row_contents) l_Row_contents c_Row_contents
  have b_Row_contents := Binds.all (K := K) (fd := PySem.W.fnOf "contents" "Row.contents" (defArgs s_Row_contents) (defBody s_Row_contents) (defScope s_Row_contents) .none kV_Row_contents dc_Row_contents pm_Row_contents an_Row_contents cd_Row_contents ct_Row_contents) (ps := ["self"]) fun us hl => match us, hl with | [_], _ => rfl
  have F_Row_capacities := funX_mk (st := s_Row_capacities) l_Row_capacities c_Row_capacities
  have b_Row_capacities := Binds.all (K := K) (fd := PySem.W.fnOf "capacities" "Row.capacities" (defArgs s_Row_capacities) (defBody s_Row_capacities) (defScope s_Row_capacities) .none kV_Row_capacities dc_Row_capacities pm_Row_capacities an_Row_capacities cd_Row_capacities ct_Row_capacities) (ps := ["self"]) fun us hl => match us, hl with | [_], _ => rfl
  have F_Row_held := funX_mk (st := s_Row_held) l_Row_held c_Row_held
  have b_Row_held := Binds.all (K := K) (fd := PySem.W.fnOf "held" "Row.held" (defArgs s_Row_held) (defBody s_Row_held) (defScope s_Row_held) .none kV_Row_held dc_Row_held pm_Row_held an_Row_held cd_Row_held ct_Row_held) (ps := ["self", "index"]) fun us hl => match us, hl with | [_, _], _ => rfl
  have F_Row_capacity := funX_mk (st := s_Row_capacity) l_Row_capacity c_Row_capacity
  have b_Row_capacity := Binds.all (K := K) (fd := PySem.W.fnOf "capacity" "Row.capacity" (defArgs s_Row_capacity) (defBody s_Row_capacity) (defScope s_Row_capacity) .none kV_Row_capacity dc_Row_capacity pm_Row_capacity an_Row_capacity cd_Row_capacity ct_Row_capacity) (ps := ["self", "index"]) fun us hl => match us, hl with | [_, _], _ => rfl
  have F_Row_total := funX_mk (st := s_Row_total) l_Row_total c_Row_total
  have b_Row_total := Binds.all (K := K) (fd := PySem.W.fnOf "total" "Row.total" (defArgs s_Row_total) (defBody s_Row_total) (defScope s_Row_total) .none kV_Row_total dc_Row_total pm_Row_total an_Row_total cd_Row_total ct_Row_total) (ps := ["self"]) fun us hl => match us, hl with | [_], _ => rfl
  have F_Row_eq := funX_mk (st := s_Row_eq) l_Row_eq c_Row_eq
  have b_Row_eq := Binds.all (K := K) (fd := PySem.W.fnOf "__eq__" "Row.__eq__" (defArgs s_Row_eq) (defBody s_Row_eq) (defScope s_Row_eq) .none kV_Row_eq dc_Row_eq pm_Row_eq an_Row_eq cd_Row_eq ct_Row_eq) (ps := ["self", "other"]) fun us hl => match us, hl with | [_, _], _ => rfl
  have F_row_with := fun_mk (st := s_row_with) l_row_with c_row_with k_row_with
  have b_row_with := F_row_with.binds (ps := ["counts", "capacities"]) fun _ _ _ _ _ _ us hl => match us, hl with | [_, _], _ => rfl
  have F_counts_of := fun_mk (st := s_counts_of) l_counts_of c_counts_of k_counts_of
  have b_counts_of := F_counts_of.binds (ps := ["row"]) fun _ _ _ _ _ _ us hl => match us, hl with | [_], _ => rfl
  have F_need_capacity := fun_mk (st := s_need_capacity) l_need_capacity c_need_capacity k_need_capacity
  have b_need_capacity := F_need_capacity.binds (ps := ["value"]) fun _ _ _ _ _ _ us hl => match us, hl with | [_], _ => rfl
  have F_passage := fun_mk (st := s_passage) l_passage c_passage k_passage
  have b_passage := F_passage.binds (ps := ["capacity", "load", "box_capacity", "count"]) fun _ _ _ _ _ _ us hl => match us, hl with | [_, _, _, _], _ => rfl
  have F_steps_along := fun_mk (st := s_steps_along) l_steps_along c_steps_along k_steps_along
  have b_steps_along := F_steps_along.binds (ps := ["row", "capacity", "sign"]) fun _ _ _ _ _ _ us hl => match us, hl with | [_, _, _], _ => rfl
  have F_row_after := fun_mk (st := s_row_after) l_row_after c_row_after k_row_after
  have b_row_after := F_row_after.binds (ps := ["row", "steps"]) fun _ _ _ _ _ _ us hl => match us, hl with | [_, _], _ => rfl
  have F_sweep := fun_mk (st := s_sweep) l_sweep c_sweep k_sweep
  have b_sweep := F_sweep.binds (ps := ["row", "capacity"]) fun _ _ _ _ _ _ us hl => match us, hl with | [_, _], _ => rfl
  have F_unsweep := fun_mk (st := s_unsweep) l_unsweep c_unsweep k_unsweep
  have b_unsweep := F_unsweep.binds (ps := ["row", "capacity"]) fun _ _ _ _ _ _ us hl => match us, hl with | [_, _], _ => rfl
  have F__law_begun := fun_mk (st := s__law_begun) l__law_begun c__law_begun k__law_begun
  have b__law_begun := F__law_begun.binds (ps := ["script"]) fun _ _ _ _ _ _ us hl => match us, hl with | [_], _ => rfl
  have F__law_mixed := fun_mk (st := s__law_mixed) l__law_mixed c__law_mixed k__law_mixed
  have b__law_mixed := F__law_mixed.binds (ps := ["state"]) fun _ _ _ _ _ _ us hl => match us, hl with | [_], _ => rfl
  have F__law_take := fun_mk (st := s__law_take) l__law_take c__law_take k__law_take
  have b__law_take := F__law_take.binds (ps := ["state", "size"]) fun _ _ _ _ _ _ us hl => match us, hl with | [_, _], _ => rfl
  have F__law_pick := fun_mk (st := s__law_pick) l__law_pick c__law_pick k__law_pick
  have b__law_pick := F__law_pick.binds (ps := ["state", "some"]) fun _ _ _ _ _ _ us hl => match us, hl with | [_, _], _ => rfl
  have F__law_shuffled := fun_mk (st := s__law_shuffled) l__law_shuffled c__law_shuffled k__law_shuffled
  have b__law_shuffled := F__law_shuffled.binds (ps := ["state", "some"]) fun _ _ _ _ _ _ us hl => match us, hl with | [_, _], _ => rfl
  have F__law_sizes := fun_mk (st := s__law_sizes) l__law_sizes c__law_sizes k__law_sizes
  have b__law_sizes := F__law_sizes.binds (ps := ["state", "most"]) fun _ _ _ _ _ _ us hl => match us, hl with | [_, _], _ => rfl
  have F__law_boxes := fun_mk (st := s__law_boxes) l__law_boxes c__law_boxes k__law_boxes
  have b__law_boxes := F__law_boxes.binds (ps := ["state", "sizes", "most"]) fun _ _ _ _ _ _ us hl => match us, hl with | [_, _, _], _ => rfl
  have F__law_crowd := fun_mk (st := s__law_crowd) l__law_crowd c__law_crowd k__law_crowd
  have b__law_crowd := F__law_crowd.binds (ps := ["state"]) fun _ _ _ _ _ _ us hl => match us, hl with | [_], _ => rfl
  have F__law_made := fun_mk (st := s__law_made) l__law_made c__law_made k__law_made
  have b__law_made := F__law_made.binds (ps := ["boxes", "sizes"]) fun _ _ _ _ _ _ us hl => match us, hl with | [_, _], _ => rfl
  have F__law_done := fun_mk (st := s__law_done) l__law_done c__law_done k__law_done
  have b__law_done := F__law_done.binds (ps := ["made", "some"]) fun _ _ _ _ _ _ us hl => match us, hl with | [_, _], _ => rfl
  have F_law := fun_mk (st := s_law) l_law c_law k_law
  have b_law := F_law.binds (ps := ["script"]) fun _ _ _ _ _ _ us hl => match us, hl with | [_], _ => rfl
  refine ⟨PySem.W.fnOf "law" "law" (defArgs s_law) (defBody s_law) (defScope s_law) .none kV_law dc_law pm_law an_law cd_law ct_law, fun s v => .of_eq rfl, fun base _ _ => ?_⟩
  have hi_BadRow : ExcI Pr w K mg base "BadRow" "field" "field" := ⟨C_BadRow, fa_BadRow_init, _, PySem.W.mg_of X G gc_BadRow, O_BadRow, a_BadRow_init, ft_BadRow_init, no_BadRow, fnI_of F_BadRow_init sc_BadRow_init rfl rfl (PySem.W.mg_of X G gc_ScoopError) rd_ScoopError sg_ScoopError fc_ScoopError (fun _ _ _ => ⟨_, rfl⟩) (by decide) (by decide), fun s u v => .of_eq rfl, fun s u v => .of_eq rfl⟩
  have D_is_integer : FnD Pr w K mg base 1 _ _ ["value"] _ := ok_is_integer F_is_integer T 
  have H_is_integer := has_mk (x := "is_integer") D_is_integer (PySem.W.mg_of X G a_is_integer) k_is_integer b_is_integer
  have D_is_between : FnD Pr w K mg base 2 _ _ ["value", "least", "greatest"] _ := ok_is_between F_is_between T H_is_integer
  have H_is_between := has_mk (x := "is_between") D_is_between (PySem.W.mg_of X G a_is_between) k_is_between b_is_between
  have D_are_pairs : FnD Pr w K mg base 2 _ _ ["value"] _ := ok_are_pairs F_are_pairs T H_is_integer
  have H_are_pairs := has_mk (x := "are_pairs") D_are_pairs (PySem.W.mg_of X G a_are_pairs) k_are_pairs b_are_pairs
  have D_are_capacities : FnD Pr w K mg base 3 _ _ ["value"] _ := ok_are_capacities F_are_capacities T H_are_pairs H_is_between
  have H_are_capacities := has_mk (x := "are_capacities") D_are_capacities (PySem.W.mg_of X G a_are_capacities) k_are_capacities b_are_capacities
  have D_are_contents : FnD Pr w K mg base 3 _ _ ["value", "capacities"] _ := ok_are_contents F_are_contents T H_are_pairs
  have H_are_contents := has_mk (x := "are_contents") D_are_contents (PySem.W.mg_of X G a_are_contents) k_are_contents b_are_contents
  have D_Row_init : FnD Pr w K mg base 4 _ _ ["self", "contents", "capacities"] _ := ok_Row_init F_Row_init T H_are_capacities H_are_contents hi_BadRow
  have hc_Row_2 : HasC Pr w K mg base 4 "Row" ["self", "contents", "capacities"] f_Row_init [] := ⟨C_Row, fa_Row_init, _, [], [], D_Row_init, PySem.W.mg_of X G gc_Row, ⟨mk_Row, a_Row_init, fn_Row_init, kc_Row⟩, (binds_dfl (n := 3) (ds := []) d_Row_init rfl rfl fun us hl => match us, hl with | [_, _, _], _ => (by refine ⟨?k, ?a, ?b⟩; (case a => exact rfl); (case b => exact rfl))), .nil, rfl, fun _ _ => RpL.nil⟩
  have D_Row_contents : FnD Pr w K mg base 1 _ _ ["self"] _ := ok_Row_contents F_Row_contents T 
  have hp_Row_contents : HasP Pr w K mg base 1 "Row" "contents" ["self"] f_Row_contents := ⟨C_Row, p_Row_contents, fa_Row_contents, _, D_Row_contents, PySem.W.mg_of X G gc_Row, Cl_Row, ⟨a_Row_contents, ge_Row_contents, tk_Row_contents, ⟨_, rc_Row_contents⟩⟩, b_Row_contents, rfl⟩
  have D_Row_capacities : FnD Pr w K mg base 1 _ _ ["self"] _ := ok_Row_capacities F_Row_capacities T 
  have hp_Row_capacities : HasP Pr w K mg base 1 "Row" "capacities" ["self"] f_Row_capacities := ⟨C_Row, p_Row_capacities, fa_Row_capacities, _, D_Row_capacities, PySem.W.mg_of X G gc_Row, Cl_Row, ⟨a_Row_capacities, ge_Row_capacities, tk_Row_capacities, ⟨_, rc_Row_capacities⟩⟩, b_Row_capacities, rfl⟩
  have D_Row_held : FnD Pr w K mg base 2 _ _ ["self", "index"] _ := ok_Row_held F_Row_held T H_is_integer
  have hm_Row_held : HasM Pr w K mg base 2 "Row" "held" ["self", "index"] f_Row_held [] := ⟨C_Row, fa_Row_held, _, [], [], D_Row_held, PySem.W.mg_of X G gc_Row, Cl_Row, ⟨a_Row_held, fn_Row_held, k_Row_held⟩, b_Row_held, .nil, fun _ _ => RpL.nil⟩
  have D_Row_capacity : FnD Pr w K mg base 2 _ _ ["self", "index"] _ := ok_Row_capacity F_Row_capacity T H_is_integer
  have hm_Row_capacity : HasM Pr w K mg base 2 "Row" "capacity" ["self", "index"] f_Row_capacity [] := ⟨C_Row, fa_Row_capacity, _, [], [], D_Row_capacity, PySem.W.mg_of X G gc_Row, Cl_Row, ⟨a_Row_capacity, fn_Row_capacity, k_Row_capacity⟩, b_Row_capacity, .nil, fun _ _ => RpL.nil⟩
  have D_Row_total : FnD Pr w K mg base 3 _ _ ["self"] _ := ok_Row_total F_Row_total T hp_Row_contents
  have hm_Row_total : HasM Pr w K mg base 3 "Row" "total" ["self"] f_Row_total [] := ⟨C_Row, fa_Row_total, _, [], [], D_Row_total, PySem.W.mg_of X G gc_Row, Cl_Row, ⟨a_Row_total, fn_Row_total, k_Row_total⟩, b_Row_total, .nil, fun _ _ => RpL.nil⟩
  have D_Row_eq : FnD Pr w K mg base 3 _ _ ["self", "other"] _ := ok_Row_eq F_Row_eq T hp_Row_capacities hp_Row_contents
  have he_Row : EqC Pr w K mg base 3 "Row" f_Row_eq := ⟨C_Row, fa_Row_eq, _, D_Row_eq, PySem.W.mg_of X G gc_Row, a_Row_eq, fn_Row_eq, b_Row_eq, ne_Row, mr_Row, mem7 sp_Row_NoneType sp_Row_bool sp_Row_int sp_Row_str sp_Row_list sp_Row_tuple sp_Row_dict⟩
  have D_row_with : FnD Pr w K mg base 6 _ _ ["counts", "capacities"] _ := ok_row_with F_row_with T hc_Row_2
  have H_row_with := has_mk (x := "row_with") D_row_with (PySem.W.mg_of X G a_row_with) k_row_with b_row_with
  have D_counts_of : FnD Pr w K mg base 3 _ _ ["row"] _ := ok_counts_of F_counts_of T hp_Row_contents
  have H_counts_of := has_mk (x := "counts_of") D_counts_of (PySem.W.mg_of X G a_counts_of) k_counts_of b_counts_of
  have D_need_capacity : FnD Pr w K mg base 3 _ _ ["value"] _ := ok_need_capacity F_need_capacity T H_is_between
  have H_need_capacity := has_mk (x := "need_capacity") D_need_capacity (PySem.W.mg_of X G a_need_capacity) k_need_capacity b_need_capacity
  have D_passage : FnD Pr w K mg base 1 _ _ ["capacity", "load", "box_capacity", "count"] _ := ok_passage F_passage T 
  have H_passage := has_mk (x := "passage") D_passage (PySem.W.mg_of X G a_passage) k_passage b_passage
  have D_steps_along : FnD Pr w K mg base 3 _ _ ["row", "capacity", "sign"] _ := ok_steps_along F_steps_along T H_passage hp_Row_contents hm_Row_held hm_Row_capacity
  have H_steps_along := has_mk (x := "steps_along") D_steps_along (PySem.W.mg_of X G a_steps_along) k_steps_along b_steps_along
  have D_row_after : FnD Pr w K mg base 7 _ _ ["row", "steps"] _ := ok_row_after F_row_after T H_counts_of H_row_with hp_Row_capacities
  have H_row_after := has_mk (x := "row_after") D_row_after (PySem.W.mg_of X G a_row_after) k_row_after b_row_after
  have D_sweep : FnD Pr w K mg base 8 _ _ ["row", "capacity"] _ := ok_sweep F_sweep T H_need_capacity H_row_after H_steps_along
  have H_sweep := has_mk (x := "sweep") D_sweep (PySem.W.mg_of X G a_sweep) k_sweep b_sweep
  have D_unsweep : FnD Pr w K mg base 8 _ _ ["row", "capacity"] _ := ok_unsweep F_unsweep T H_need_capacity H_row_after H_steps_along
  have H_unsweep := has_mk (x := "unsweep") D_unsweep (PySem.W.mg_of X G a_unsweep) k_unsweep b_unsweep
  have D__law_begun : FnD Pr w K mg base 1 _ _ ["script"] _ := ok__law_begun F__law_begun T 
  have H__law_begun := has_mk (x := "_law_begun") D__law_begun (PySem.W.mg_of X G a__law_begun) k__law_begun b__law_begun
  have D__law_mixed : FnD Pr w K mg base 1 _ _ ["state"] _ := ok__law_mixed F__law_mixed T 
  have H__law_mixed := has_mk (x := "_law_mixed") D__law_mixed (PySem.W.mg_of X G a__law_mixed) k__law_mixed b__law_mixed
  have D__law_take : FnD Pr w K mg base 2 _ _ ["state", "size"] _ := ok__law_take F__law_take T H__law_mixed
  have H__law_take := has_mk (x := "_law_take") D__law_take (PySem.W.mg_of X G a__law_take) k__law_take b__law_take
  have D__law_pick : FnD Pr w K mg base 3 _ _ ["state", "some"] _ := ok__law_pick F__law_pick T H__law_take
  have H__law_pick := has_mk (x := "_law_pick") D__law_pick (PySem.W.mg_of X G a__law_pick) k__law_pick b__law_pick
  have D__law_shuffled : FnD Pr w K mg base 3 _ _ ["state", "some"] _ := ok__law_shuffled F__law_shuffled T H__law_take
  have H__law_shuffled := has_mk (x := "_law_shuffled") D__law_shuffled (PySem.W.mg_of X G a__law_shuffled) k__law_shuffled b__law_shuffled
  have D__law_sizes : FnD Pr w K mg base 4 _ _ ["state", "most"] _ := ok__law_sizes F__law_sizes T H__law_pick H__law_take
  have H__law_sizes := has_mk (x := "_law_sizes") D__law_sizes (PySem.W.mg_of X G a__law_sizes) k__law_sizes b__law_sizes
  have D__law_boxes : FnD Pr w K mg base 4 _ _ ["state", "sizes", "most"] _ := ok__law_boxes F__law_boxes T H__law_pick H__law_take
  have H__law_boxes := has_mk (x := "_law_boxes") D__law_boxes (PySem.W.mg_of X G a__law_boxes) k__law_boxes b__law_boxes
  have D__law_crowd : FnD Pr w K mg base 4 _ _ ["state"] _ := ok__law_crowd F__law_crowd T H__law_pick H__law_take
  have H__law_crowd := has_mk (x := "_law_crowd") D__law_crowd (PySem.W.mg_of X G a__law_crowd) k__law_crowd b__law_crowd
  have D__law_made : FnD Pr w K mg base 6 _ _ ["boxes", "sizes"] _ := ok__law_made F__law_made T hc_Row_2
  have H__law_made := has_mk (x := "_law_made") D__law_made (PySem.W.mg_of X G a__law_made) k__law_made b__law_made
  have D__law_done : FnD Pr w K mg base 9 _ _ ["made", "some"] _ := ok__law_done F__law_done T H_sweep H_unsweep
  have H__law_done := has_mk (x := "_law_done") D__law_done (PySem.W.mg_of X G a__law_done) k__law_done b__law_done
  have D_law : FnD Pr w K mg base 10 _ _ ["script"] _ := ok_law F_law T H__law_begun H__law_boxes H__law_crowd H__law_done H__law_made H__law_pick H__law_shuffled H__law_sizes H__law_take he_Row hm_Row_total
  exact D_law
end K18
open PySem PySem.W PyProof.Rows
set_option maxRecDepth 100000 in
set_option maxHeartbeats 0 in
theorem PySem.Challenge.cw_scooprow_k18_whole_sweeps_in_any_order_holds : PySem.Challenge.rw_scooprow_k18_whole_sweeps_in_any_order.Holds := by
  w_on; o_law; k_head; (case hw => w_witness2)
  k_fill
  refine DL.walk_G (l := PySem.Challenge.rw_scooprow_k18_whole_sweeps_in_any_order) (n := 63) (k := 10) (x := "script") (C := fun w => L2.CX PySem.Challenge.rw_scooprow_k18_whole_sweeps_in_any_order.prog w) (sp := fun w mg => DL.spD _ mg 1 K18.f_law) rfl (by decide) rfl ⟨rfl, by decide, by decide⟩ (fun w h Y => PySem.W.kIn_of Y) ?F (fun w mg H a ns hl _ hS => DL.sp_law (K18.law_ok hl) hS) fun _ _ _ _ _ z => DL.cx_no z
  case F =>
    intro w mg fa h KX G hmg
    refine' K18.all_mk KX G hmg ?gc_Row ?pg_Row ?hd_Row ?po_Row ?sa_Row ?mk_Row ?kc_Row ?ne_Row ?sp_Row_NoneType ?sp_Row_bool ?sp_Row_int ?sp_Row_str ?sp_Row_list ?sp_Row_tuple ?sp_Row_dict ?mr_Row ?ca_Row ?cl_Row ?ty_Row ?sb_Row_Row ?nd ?tkc ?na_Row_r_counts ?na_Row_r_sizes ?a_is_integer ?l_is_integer ?c_is_integer ?k_is_integer ?a_is_between ?l_is_between ?c_is_between ?k_is_between ?a_are_pairs ?l_are_pairs ?c_are_pairs ?k_are_pairs ?a_are_capacities ?l_are_capacities ?c_are_capacities ?k_are_capacities ?a_are_contents ?l_are_contents ?c_are_contents ?k_are_contents ?a_Row_init ?fn_Row_init ?l_Row_init ?c_Row_init ?d_Row_init ?e_Row_init_0_ ?e_Row_init_1_ ?a_Row_contents ?ge_Row_contents ?tk_Row_contents ?rc_Row_contents ?l_Row_contents ?c_Row_contents ?a_Row_capacities ?ge_Row_capacities ?tk_Row_capacities ?rc_Row_capacities ?l_Row_capacities ?c_Row_capacities ?a_Row_held ?fn_Row_held ?k_Row_held ?l_Row_held ?c_Row_held ?a_Row_capacity ?fn_Row_capacity ?k_Row_capacity ?l_Row_capacity ?c_Row_capacity ?a_Row_total ?fn_Row_total ?k_Row_total ?l_Row_total ?c_Row_total ?a_Row_eq ?fn_Row_eq ?l_Row_eq ?c_Row_eq ?a_row_with ?l_row_with ?c_row_with ?k_row_with ?a_counts_of ?l_counts_of ?c_counts_of ?k_counts_of ?a_need_capacity ?l_need_capacity ?c_need_capacity ?k_need_capacity ?a_passage ?l_passage ?c_passage ?k_passage ?a_steps_along ?l_steps_along ?c_steps_along ?k_steps_along ?a_row_after ?l_row_after ?c_row_after ?k_row_after ?a_sweep ?l_sweep ?c_sweep ?k_sweep ?a_unsweep ?l_unsweep ?c_unsweep ?k_unsweep ?a__law_begun ?l__law_begun ?c__law_begun ?k__law_begun ?a__law_mixed ?l__law_mixed ?c__law_mixed ?k__law_mixed ?a__law_take ?l__law_take ?c__law_take ?k__law_take ?a__law_pick ?l__law_pick ?c__law_pick ?k__law_pick ?a__law_shuffled ?l__law_shuffled ?c__law_shuffled ?k__law_shuffled ?a__law_sizes ?l__law_sizes ?c__law_sizes ?k__law_sizes ?a__law_boxes ?l__law_boxes ?c__law_boxes ?k__law_boxes ?a__law_crowd ?l__law_crowd ?c__law_crowd ?k__law_crowd ?a__law_made ?l__law_made ?c__law_made ?k__law_made ?a__law_done ?l__law_done ?c__law_done ?k__law_done ?a_law ?l_law ?c_law ?k_law ?g_FARTHEST ?g_GREATEST_CAPACITY ?g_MOST_ITEMS ?g_MOST_WIDE ?g_NARROWEST ?g_WIDEST ?z_all ?z_bool ?z_dict ?z_int ?z_isinstance ?z_len ?z_list ?z_min ?z_range ?z_set ?z_sorted ?z_sum ?z_tuple ?gc_BadCapacity ?su_BadCapacity ?ty_BadCapacity ?gc_BadIndex ?su_BadIndex ?ty_BadIndex ?gc_BadRow ?su_BadRow ?ty_BadRow ?oc_BadRow ?rv_BadRow ?sa_BadRow ?kc_BadRow ?a_BadRow_init ?ft_BadRow_init ?l_BadRow_init ?c_BadRow_init ?no_BadRow ?gc_ScoopError ?rd_ScoopError ?sg_ScoopError ?fc_ScoopError ?ex_BadCapacity ?kc_BadCapacity ?ex_BadIndex ?kc_BadIndex
    (case gc_Row => k_is)
    (case pg_Row => k_is)
    (case hd_Row => k_is)
    (case po_Row => k_is)
    (case sa_Row => k_is)
    (case mk_Row => k_is)
    (case kc_Row => k_is)
    (case ne_Row => k_is)
    (case sp_Row_NoneType => k_is)
    (case sp_Row_bool => k_is)
    (case sp_Row_int => k_is)
    (case sp_Row_str => k_is)
    (case sp_Row_list => k_is)
    (case sp_Row_tuple => k_is)
    (case sp_Row_dict => k_is)
    (case mr_Row => k_is)
    (case ca_Row => k_is)
    (case cl_Row => k_is)
    (case ty_Row => k_is)
    (case sb_Row_Row => first | rfl | k_is)
    (case nd => k_is)
    (case tkc => k_is)
    (case na_Row_r_counts => k_is)
    (case na_Row_r_sizes => k_is)
    (case a_is_integer => k_is)
    (case l_is_integer => k_is)
    (case c_is_integer => k_is)
    (case k_is_integer => k_is)
    (case a_is_between => k_is)
    (case l_is_between => k_is)
    (case c_is_between => k_is)
    (case k_is_between => k_is)
    (case a_are_pairs => k_is)
    (case l_are_pairs => k_is)
    (case c_are_pairs => k_is)
    (case k_are_pairs => k_is)
    (case a_are_capacities => k_is)
    (case l_are_capacities => k_is)
    (case c_are_capacities => k_is)
    (case k_are_capacities => k_is)
    (case a_are_contents => k_is)
    (case l_are_contents => k_is)
    (case c_are_contents => k_is)
    (case k_are_contents => k_is)
    (case a_Row_init => k_is)
    (case fn_Row_init => k_is)
    (case l_Row_init => k_is)
    (case c_Row_init => k_is)
    (case d_Row_init => k_is)
    (case e_Row_init_0_ => k_is)
    (case e_Row_init_1_ => k_is)
    (case a_Row_contents => k_is)
    (case ge_Row_contents => k_is)
    (case tk_Row_contents => k_is)
    (case rc_Row_contents => k_is)
    (case l_Row_contents => k_is)
    (case c_Row_contents => k_is)
    (case a_Row_capacities => k_is)
    (case ge_Row_capacities => k_is)
    (case tk_Row_capacities => k_is)
    (case rc_Row_capacities => k_is)
    (case l_Row_capacities => k_is)
    (case c_Row_capacities => k_is)
    (case a_Row_held => k_is)
    (case fn_Row_held => k_is)
    (case k_Row_held => k_is)
    (case l_Row_held => k_is)
    (case c_Row_held => k_is)
    (case a_Row_capacity => k_is)
    (case fn_Row_capacity => k_is)
    (case k_Row_capacity => k_is)
    (case l_Row_capacity => k_is)
    (case c_Row_capacity => k_is)
    (case a_Row_total => k_is)
    (case fn_Row_total => k_is)
    (case k_Row_total => k_is)
    (case l_Row_total => k_is)
    (case c_Row_total => k_is)
    (case a_Row_eq => k_is)
    (case fn_Row_eq => k_is)
    (case l_Row_eq => k_is)
    (case c_Row_eq => k_is)
    (case a_row_with => k_is)
    (case l_row_with => k_is)
    (case c_row_with => k_is)
    (case k_row_with => k_is)
    (case a_counts_of => k_is)
    (case l_counts_of => k_is)
    (case c_counts_of => k_is)
    (case k_counts_of => k_is)
    (case a_need_capacity => k_is)
    (case l_need_capacity => k_is)
    (case c_need_capacity => k_is)
    (case k_need_capacity => k_is)
    (case a_passage => k_is)
    (case l_passage => k_is)
    (case c_passage => k_is)
    (case k_passage => k_is)
    (case a_steps_along => k_is)
    (case l_steps_along => k_is)
    (case c_steps_along => k_is)
    (case k_steps_along => k_is)
    (case a_row_after => k_is)
    (case l_row_after => k_is)
    (case c_row_after => k_is)
    (case k_row_after => k_is)
    (case a_sweep => k_is)
    (case l_sweep => k_is)
    (case c_sweep => k_is)
    (case k_sweep => k_is)
    (case a_unsweep => k_is)
    (case l_unsweep => k_is)
    (case c_unsweep => k_is)
    (case k_unsweep => k_is)
    (case a__law_begun => k_is)
    (case l__law_begun => k_is)
    (case c__law_begun => k_is)
    (case k__law_begun => k_is)
    (case a__law_mixed => k_is)
    (case l__law_mixed => k_is)
    (case c__law_mixed => k_is)
    (case k__law_mixed => k_is)
    (case a__law_take => k_is)
    (case l__law_take => k_is)
    (case c__law_take => k_is)
    (case k__law_take => k_is)
    (case a__law_pick => k_is)
    (case l__law_pick => k_is)
    (case c__law_pick => k_is)
    (case k__law_pick => k_is)
    (case a__law_shuffled => k_is)
    (case l__law_shuffled => k_is)
    (case c__law_shuffled => k_is)
    (case k__law_shuffled => k_is)
    (case a__law_sizes => k_is)
    (case l__law_sizes => k_is)
    (case c__law_sizes => k_is)
    (case k__law_sizes => k_is)
    (case a__law_boxes => k_is)
    (case l__law_boxes => k_is)
    (case c__law_boxes => k_is)
    (case k__law_boxes => k_is)
    (case a__law_crowd => k_is)
    (case l__law_crowd => k_is)
    (case c__law_crowd => k_is)
    (case k__law_crowd => k_is)
    (case a__law_made => k_is)
    (case l__law_made => k_is)
    (case c__law_made => k_is)
    (case k__law_made => k_is)
    (case a__law_done => k_is)
    (case l__law_done => k_is)
    (case c__law_done => k_is)
    (case k__law_done => k_is)
    (case a_law => k_is)
    (case l_law => k_is)
    (case c_law => k_is)
    (case k_law => k_is)
    (case g_FARTHEST => k_is)
    (case g_GREATEST_CAPACITY => k_is)
    (case g_MOST_ITEMS => k_is)
    (case g_MOST_WIDE => k_is)
    (case g_NARROWEST => k_is)
    (case g_WIDEST => k_is)
    (case z_all => k_is)
    (case z_bool => k_is)
    (case z_dict => k_is)
    (case z_int => k_is)
    (case z_isinstance => k_is)
    (case z_len => k_is)
    (case z_list => k_is)
    (case z_min => k_is)
    (case z_range => k_is)
    (case z_set => k_is)
    (case z_sorted => k_is)
    (case z_sum => k_is)
    (case z_tuple => k_is)
    (case gc_BadCapacity => k_is)
    (case su_BadCapacity => k_is)
    (case ty_BadCapacity => k_is)
    (case gc_BadIndex => k_is)
    (case su_BadIndex => k_is)
    (case ty_BadIndex => k_is)
    (case gc_BadRow => k_is)
    (case su_BadRow => k_is)
    (case ty_BadRow => k_is)
    (case oc_BadRow => k_is)
    (case rv_BadRow => first | rfl | decide | k_is)
    (case sa_BadRow => k_is)
    (case kc_BadRow => k_is)
    (case a_BadRow_init => k_is)
    (case ft_BadRow_init => k_is)
    (case l_BadRow_init => k_is)
    (case c_BadRow_init => k_is)
    (case no_BadRow => k_is)
    (case gc_ScoopError => k_is)
    (case rd_ScoopError => k_is)
    (case sg_ScoopError => k_is)
    (case fc_ScoopError => k_is)
    (case ex_BadCapacity => k_exc)
    (case kc_BadCapacity => k_is)
    (case ex_BadIndex => k_exc)
    (case kc_BadIndex => k_is)
