import PyProof.Rows.All
import Wide.All
import OpenK.AllK
import Wide.FinOn
import HandS.ForMost
import HandS.Exc
import HandS.ExcOwn
import HandS.TryOnly
import HandS.WordsExc
import HandS.TupAny
import HandS.Conv
import KE.DataEq
import KE.DataCmp
import KE.DataIsa
import KE.DataAny
import KE.SortData
import KE.DataMinMax
import HandS.Wide
import HandS.Zip
import HandS.IsInst
import PyProof.ReprRoads
import HandS.RaiseMore
import KE.GoesZip
import KE.GoesMore
import KE.SortCalls
import HandS.SetFor
import PyProof.TupleOfSeq
import KE.KExcSuper
import HandS.ExcInit
import HandS.HotCalls
import HandS.ExcField
import HandS.Ends
import HandS.HeadEnd
import KE.KStateDown
import Lean
import HandS.Defaults
import HandS.Head0
import HandS.Head1
import HandS.Head2
import HandS.HeadHook1
import HandS.HeadHook2
import PyProof.Rows.RegFStrParts
import PySem.Challenge.RW_heldterms_k69_small_worlds
set_option Elab.async false
set_option linter.all false
set_option maxRecDepth 100000
set_option maxHeartbeats 0
/-! Pu1: data on the abstract heap, the state of a def's frame, what an expression means. -/
namespace Pu
open PySem PySem.Spec PyProof.Rows L2
abbrev D := PyData
abbrev St := L2.St
/-- the keys that dicts have here -/
def keyD : D → Option Key
  | .int i => some (.inl i)
  | .str x => some (.inr x)
  | _ => none
mutual
/-- v stands for d on the heap H -/
def Rp (K : PySem.W.Frag) (H : Hp) : D → V → Prop
  | .none, v => v = .non
  | .bool b, v => v = .bl b
  | .int i, v => v = .int i
  | .str x, v => v = .str x
  | .list ds, v => ∃ a vs, v = .ref a ∧ SqL K H a vs ∧ RpL K H ds vs
  | .tuple ds, v => ∃ a vs, v = .ref a ∧ SqT K H a vs ∧ RpL K H ds vs
  | .dict kvs, v => ∃ a ws, v = .ref a ∧ H a = some (.dK ws) ∧ RpK K H kvs ws
def RpL (K : PySem.W.Frag) (H : Hp) : List D → List V → Prop
  | [], vs => vs = []
  | d :: ds, vs => ∃ v r, vs = v :: r ∧ Rp K H d v ∧ RpL K H ds r
def RpK (K : PySem.W.Frag) (H : Hp) : List (D × D) → List (Key × V) → Prop
  | [], ws => ws = []
  | (k, d) :: r, ws => ∃ kk v t, ws = (kk, v) :: t ∧ keyD k = some kk ∧ Rp K H d v ∧ RpK K H r t
end
theorem Same.sqL {K : PySem.W.Frag} {H H' : Hp} {a : Addr} {xs : List V} (e : Same H H') (h : SqL K H a xs) : SqL K H' a xs := by
  rcases h with (h | ⟨x, h⟩) | h
  · exact .inl (.inl (e _ _ h))
  · exact .inl (.inr ⟨x, e _ _ h⟩)
  · exact .inr h
theorem Same.sqT {K : PySem.W.Frag} {H H' : Hp} {a : Addr} {xs : List V} (e : Same H H') (h : SqT K H a xs) : SqT K H' a xs := by
  rcases h with (h | ⟨x, h⟩) | h
  · exact .inl (.inl (e _ _ h))
  · exact .inl (.inr ⟨x, e _ _ h⟩)
  · exact .inr h
mutual
theorem Rp.mono {K : PySem.W.Frag} {H H' : Hp} (e : Same H H') : ∀ (d : D) (v : V), Rp K H d v → Rp K H' d v
  | .none, _, h => by simpa only [Rp] using h
  | .bool _, _, h => by simpa only [Rp] using h
  | .int _, _, h => by simpa only [Rp] using h
  | .str _, _, h => by simpa only [Rp] using h
  | .list ds, v, h => by
    simp only [Rp] at h ⊢
    obtain ⟨a, vs, h1, h2, h3⟩ := h
    exact ⟨a, vs, h1, Same.sqL e h2, RpL.mono e ds vs h3⟩
  | .tuple ds, v, h => by
    simp only [Rp] at h ⊢
    obtain ⟨a, vs, h1, h2, h3⟩ := h
    exact ⟨a, vs, h1, Same.sqT e h2, RpL.mono e ds vs h3⟩
  | .dict kvs, v, h => by
    simp only [Rp] at h ⊢
    obtain ⟨a, ws, h1, h2, h3⟩ := h
    exact ⟨a, ws, h1, e _ _ h2, RpK.mono e kvs ws h3⟩
theorem RpL.mono {K : PySem.W.Frag} {H H' : Hp} (e : Same H H') : ∀ (ds : List D) (vs : List V), RpL K H ds vs → RpL K H' ds vs
  | [], _, h => by simpa only [RpL] using h
  | d :: ds, vs, h => by
    simp only [RpL] at h ⊢
    obtain ⟨v, r, h1, h2, h3⟩ := h
    exact ⟨v, r, h1, Rp.mono e d v h2, RpL.mono e ds r h3⟩
theorem RpK.mono {K : PySem.W.Frag} {H H' : Hp} (e : Same H H') : ∀ (kvs : List (D × D)) (ws : List (Key × V)), RpK K H kvs ws → RpK K H' kvs ws
  | [], _, h => by simpa only [RpK] using h
  | (k, d) :: r, ws, h => by
    simp only [RpK] at h ⊢
    obtain ⟨kk, v, t, h1, h2, h3, h4⟩ := h
    exact ⟨kk, v, t, h1, h2, Rp.mono e d v h3, RpK.mono e r t h4⟩
end
section
variable {K : PySem.W.Frag} {H : Hp}
theorem RpL.nil : RpL K H [] [] := by simp only [RpL]
theorem RpL.cons {d : D} {ds : List D} {v : V} {vs : List V} (h : Rp K H d v) (r : RpL K H ds vs) : RpL K H (d :: ds) (v :: vs) := by
  simp only [RpL]
  exact ⟨v, vs, rfl, h, r⟩
theorem RpL.cons_inv {d : D} {ds : List D} {vs : List V} (h : RpL K H (d :: ds) vs) : ∃ v r, vs = v :: r ∧ Rp K H d v ∧ RpL K H ds r := by
  simpa only [RpL] using h
theorem RpL.nil_inv {vs : List V} (h : RpL K H [] vs) : vs = [] := by
  simpa only [RpL] using h
theorem RpL.length : ∀ {ds : List D} {vs : List V}, RpL K H ds vs → vs.length = ds.length
  | [], vs, h => by rw [h.nil_inv]; rfl
  | d :: ds, vs, h => by
    obtain ⟨v, r, rfl, _, h2⟩ := h.cons_inv
    rw [List.length_cons, List.length_cons, RpL.length h2]
theorem RpL.append : ∀ {ds es : List D} {vs ws : List V}, RpL K H ds vs → RpL K H es ws → RpL K H (ds ++ es) (vs ++ ws)
  | [], es, vs, ws, h, k => by rw [h.nil_inv]; exact k
  | d :: ds, es, vs, ws, h, k => by
    obtain ⟨v, r, rfl, h1, h2⟩ := h.cons_inv
    exact RpL.cons h1 (RpL.append h2 k)
theorem RpL.get : ∀ {ds : List D} {vs : List V} {i : Nat} {d : D}, RpL K H ds vs → ds[i]? = some d → ∃ v, vs[i]? = some v ∧ Rp K H d v
  | [], _, _, _, _, e => by simp at e
  | d :: ds, vs, 0, d', h, e => by
    obtain ⟨v, r, rfl, h1, h2⟩ := h.cons_inv
    simp at e; subst e
    exact ⟨v, rfl, h1⟩
  | d :: ds, vs, i + 1, d', h, e => by
    obtain ⟨v, r, rfl, h1, h2⟩ := h.cons_inv
    obtain ⟨w, e1, e2⟩ := RpL.get (i := i) h2 (by simpa using e)
    exact ⟨w, by simpa using e1, e2⟩
theorem RpL.take : ∀ {ds : List D} {vs : List V} (n : Nat), RpL K H ds vs → RpL K H (ds.take n) (vs.take n)
  | _, _, 0, _ => by simpa using RpL.nil
  | [], vs, n + 1, h => by rw [h.nil_inv]; exact RpL.nil
  | d :: ds, vs, n + 1, h => by
    obtain ⟨v, r, rfl, h1, h2⟩ := h.cons_inv
    exact RpL.cons h1 (RpL.take n h2)
theorem RpL.drop : ∀ {ds : List D} {vs : List V} (n : Nat), RpL K H ds vs → RpL K H (ds.drop n) (vs.drop n)
  | _, _, 0, h => by simpa using h
  | [], vs, n + 1, h => by rw [h.nil_inv]; exact RpL.nil
  | d :: ds, vs, n + 1, h => by
    obtain ⟨v, r, rfl, h1, h2⟩ := h.cons_inv
    exact RpL.drop n h2
theorem RpL.reverse : ∀ {ds : List D} {vs : List V}, RpL K H ds vs → RpL K H ds.reverse vs.reverse
  | [], vs, h => by rw [h.nil_inv]; exact RpL.nil
  | d :: ds, vs, h => by
    obtain ⟨v, r, rfl, h1, h2⟩ := h.cons_inv
    rw [List.reverse_cons, List.reverse_cons]; exact RpL.append (RpL.reverse h2) (RpL.cons h1 RpL.nil)
theorem RpL.set : ∀ {ds : List D} {vs : List V} {d : D} {v : V} (i : Nat), RpL K H ds vs → Rp K H d v → RpL K H (ds.set i d) (vs.set i v)
  | [], vs, d, v, i, h, k => by rw [h.nil_inv]; exact RpL.nil
  | d' :: ds, vs, d, v, 0, h, k => by
    obtain ⟨w, r, rfl, h1, h2⟩ := h.cons_inv
    exact RpL.cons k h2
  | d' :: ds, vs, d, v, i + 1, h, k => by
    obtain ⟨w, r, rfl, h1, h2⟩ := h.cons_inv
    exact RpL.cons h1 (RpL.set i h2 k)
theorem RpL.ints : ∀ (ns : List Int), RpL K H (ns.map PyData.int) (ns.map V.int)
  | [] => RpL.nil
  | n :: ns => RpL.cons (by simp only [Rp]) (RpL.ints ns)
end
/-! ### the state -/
/-- the drawing's bag: its three numbers, its cells -/
structure Bag where
  b0 : Int
  b1 : Int
  b2 : Int
  cs : List Int
/-- a frame's name: no value; data that nobody changes; a list that this name alone holds; the bag -/
inductive Sl where
  | no | dat (d : D) | own (ds : List D) | bag
structure S where
  ρ : List Sl
  β : Bag
/-- the bag's own object -/
def BagAt (K : PySem.W.Frag) (Hf H : Hp) (a : Addr) (β : Bag) : Prop :=
  ∃ c, H a = some (.lst [.int β.b0, .int β.b1, .int β.b2, .ref c]) ∧ Rp K Hf (.list (β.cs.map .int)) (.ref c)
/-- O: what the callers hold for themselves; Hf: what nobody changes; the bag -/
structure Reg (K : PySem.W.Frag) (ba : Option Addr) (O Hf H : Hp) (β : Bag) : Prop where
  sub : Same Hf H
  out : Same O H
  dis : ∀ a, Hf a ≠ none → O a = none
  bag : ∀ a, ba = some a → BagAt K Hf H a β ∧ Hf a = none ∧ O a = none
def OwnAt (K : PySem.W.Frag) (ba : Option Addr) (O Hf H : Hp) (ds : List D) (a : Addr) : Prop :=
  ∃ vs, H a = some (.lst vs) ∧ Hf a = none ∧ O a = none ∧ ba ≠ some a ∧ RpL K Hf ds vs
def SlOk (K : PySem.W.Frag) (ba : Option Addr) (O Hf H : Hp) : Sl → Option V → Prop
  | .no, _ => True
  | .dat d, x => ∃ v, x = some v ∧ Rp K Hf d v
  | .own ds, x => ∃ a, x = some (.ref a) ∧ OwnAt K ba O Hf H ds a
  | .bag, x => ∃ a, ba = some a ∧ x = some (.ref a)
structure Rep (K : PySem.W.Frag) (ba : Option Addr) (O Hf H : Hp) (σ : St) (s : S) : Prop where
  reg : Reg K ba O Hf H s.β
  len : s.ρ.length = σ.length
  slot : ∀ (i : Nat) (sl : Sl) (x : Option V), s.ρ[i]? = some sl → σ[i]? = some x → SlOk K ba O Hf H sl x
  uni : ∀ (i j : Nat) (ds es : List D) (x : Option V), i ≠ j → s.ρ[i]? = some (.own ds) → s.ρ[j]? = some (.own es) → σ[i]? = some x → σ[j]? ≠ some x
/-- what an expression gives: data; a list that nobody else holds; the list of a name; the bag -/
inductive Rv where
  | dat (d : D) | fresh (ds : List D) | slot (i : Nat) | bag
def RvOk (K : PySem.W.Frag) (ba : Option Addr) (O Hf H : Hp) (σ : St) (s : S) : Rv → V → Prop
  | .dat d, v => Rp K Hf d v
  | .fresh ds, v => ∃ a, v = .ref a ∧ OwnAt K ba O Hf H ds a ∧ ∀ (i : Nat) es, s.ρ[i]? = some (.own es) → σ[i]? ≠ some (some (.ref a))
  | .slot i, v => ∃ ds, s.ρ[i]? = some (.own ds) ∧ σ[i]? = some (some v)
  | .bag, v => ∃ a, ba = some a ∧ v = .ref a
section
variable {K : PySem.W.Frag} {ba : Option Addr} {O Hf Hf' H H' : Hp} {σ : St} {s : S} {β : Bag} {ds : List D} {a p : Addr} {v : V} {o : HO}
theorem Same.updN {H : Hp} {p : Addr} {o : HO} (h : H p = none) : Same H (upd H p o) := fun b x e => by
  rw [upd_ne (ne_of_none e h)]
  exact e
theorem Same.updF {H Hf : Hp} {p : Addr} {o : HO} (s : Same Hf H) (h : H p = some o) : Same (upd Hf p o) H := fun b x e => by
  by_cases q : b = p
  · subst q
    rw [upd_same] at e
    rw [h]
    exact e
  · rw [upd_ne q] at e
    exact s b x e
/-- an own list is frozen from now on -/
theorem Reg.freeze (R : Reg K ba O Hf H β) {vs : List V} (h : H a = some (.lst vs)) (hf : Hf a = none) (ho : O a = none) (hb : ba ≠ some a) : Reg K ba O (upd Hf a (.lst vs)) H β where
  sub := Same.updF R.sub h
  out := R.out
  dis := fun b q => by
    by_cases e : b = a
    · subst e; exact ho
    · rw [upd_ne e] at q
      exact R.dis b q
  bag := fun b e => by
    obtain ⟨⟨c, h1, h2⟩, h3, h4⟩ := R.bag b e
    have ne : b ≠ a := fun z => hb (z ▸ e)
    exact ⟨⟨c, h1, Rp.mono (Same.updN hf) _ _ h2⟩, by rw [upd_ne ne]; exact h3, h4⟩
theorem OwnAt.freeze {b : Addr} {es : List D} (h : OwnAt K ba O Hf H es b) (hf : Hf a = none) (ne : b ≠ a) {vs : List V} : OwnAt K ba O (upd Hf a (.lst vs)) H es b := by
  obtain ⟨ws, h1, h2, h3, h4, h5⟩ := h
  exact ⟨ws, h1, by rw [upd_ne ne]; exact h2, h3, h4, RpL.mono (Same.updN hf) _ _ h5⟩
/-- a fresh list becomes data -/
theorem Rep.freeze (R : Rep K ba O Hf H σ s) (h : RvOk K ba O Hf H σ s (.fresh ds) v) : ∃ Hf', Same Hf Hf' ∧ Rep K ba O Hf' H σ s ∧ Rp K Hf' (.list ds) v := by
  obtain ⟨a, rfl, ⟨vs, h1, h2, h3, h4, h5⟩, hu⟩ := h
  refine ⟨upd Hf a (.lst vs), Same.updN h2, ⟨R.reg.freeze h1 h2 h3 h4, R.len, fun i sl x e1 e2 => ?_, R.uni⟩, ?_⟩
  · have q := R.slot i sl x e1 e2
    cases sl with
    | no => trivial
    | dat d => obtain ⟨w, q1, q2⟩ := q; exact ⟨w, q1, Rp.mono (Same.updN h2) _ _ q2⟩
    | own es =>
      obtain ⟨b, q1, q2⟩ := q
      subst q1
      refine ⟨b, rfl, q2.freeze h2 fun z => ?_⟩
      subst z
      exact hu i es e1 e2
    | bag => exact q
  · simp only [Rp]
    exact ⟨a, vs, rfl, SqL.of upd_same, RpL.mono (Same.updN h2) _ _ h5⟩
theorem Rep.at {i : Nat} {sl : Sl} (R : Rep K ba O Hf H σ s) (h : s.ρ[i]? = some sl) : ∃ x, σ[i]? = some x ∧ SlOk K ba O Hf H sl x := by
  have hi : i < σ.length := by
    rw [← R.len]; exact (List.getElem?_eq_some_iff.mp h).1
  exact ⟨σ[i], List.getElem?_eq_getElem hi, R.slot i sl _ h (List.getElem?_eq_getElem hi)⟩
/-- a name's own list becomes data -/
theorem Rep.freezeSlot {i : Nat} (R : Rep K ba O Hf H σ s) (h : s.ρ[i]? = some (.own ds)) (hv : σ[i]? = some (some v)) :
    ∃ Hf', Same Hf Hf' ∧ Rep K ba O Hf' H σ { s with ρ := s.ρ.set i (.dat (.list ds)) } ∧ Rp K Hf' (.list ds) v := by
  obtain ⟨a, e, vs, h1, h2, h3, h4, h5⟩ := R.slot i _ _ h hv
  cases e
  have hi : i < s.ρ.length := (List.getElem?_eq_some_iff.mp h).1
  have hr : Rp K (upd Hf a (.lst vs)) (.list ds) (.ref a) := by
    simp only [Rp]
    exact ⟨a, vs, rfl, SqL.of upd_same, RpL.mono (Same.updN h2) _ _ h5⟩
  refine ⟨upd Hf a (.lst vs), Same.updN h2, ⟨R.reg.freeze h1 h2 h3 h4, by rw [List.length_set]; exact R.len, fun j sl x e1 e2 => ?_, fun j k es fs x ne e1 e2 e3 => ?_⟩, hr⟩
  · by_cases ji : i = j
    · subst ji
      rw [List.getElem?_set_self hi] at e1
      cases e1
      rw [hv] at e2
      cases e2
      exact ⟨_, rfl, hr⟩
    · rw [List.getElem?_set_ne ji] at e1
      have q := R.slot j sl x e1 e2
      cases sl with
      | no => trivial
      | dat d => obtain ⟨w, q1, q2⟩ := q; exact ⟨w, q1, Rp.mono (Same.updN h2) _ _ q2⟩
      | own es =>
        obtain ⟨b, q1, q2⟩ := q
        subst q1
        refine ⟨b, rfl, q2.freeze h2 fun z => ?_⟩
        subst z
        exact R.uni i j _ _ _ ji h e1 hv e2
      | bag => exact q
  · by_cases ji : i = j
    · subst ji
      rw [List.getElem?_set_self hi] at e1
      cases e1
    · rw [List.getElem?_set_ne ji] at e1
      by_cases ki : i = k
      · subst ki
        rw [List.getElem?_set_self hi] at e2
        cases e2
      · rw [List.getElem?_set_ne ki] at e2
        exact R.uni j k es fs x ne e1 e2 e3
/-- a new object that nobody holds -/
theorem Reg.grow (R : Reg K ba O Hf H β) (hp : H p = none) : Reg K ba O Hf (upd H p o) β where
  sub := fun b x e => by rw [upd_ne (ne_of_none (R.sub b x e) hp)]; exact R.sub b x e
  out := fun b x e => by rw [upd_ne (ne_of_none (R.out b x e) hp)]; exact R.out b x e
  dis := R.dis
  bag := fun b e => by
    obtain ⟨⟨c, h1, h2⟩, h3, h4⟩ := R.bag b e
    exact ⟨⟨c, by rw [upd_ne (ne_of_none h1 hp)]; exact h1, h2⟩, h3, h4⟩
theorem OwnAt.grow {b : Addr} {es : List D} (h : OwnAt K ba O Hf H es b) (hp : H p = none) : OwnAt K ba O Hf (upd H p o) es b := by
  obtain ⟨ws, h1, h2, h3, h4, h5⟩ := h
  exact ⟨ws, by rw [upd_ne (ne_of_none h1 hp)]; exact h1, h2, h3, h4, h5⟩
theorem SlOk.grow {sl : Sl} {x : Option V} (h : SlOk K ba O Hf H sl x) (hp : H p = none) : SlOk K ba O Hf (upd H p o) sl x := by
  cases sl with
  | no => trivial
  | dat d => exact h
  | own es => obtain ⟨b, q1, q2⟩ := h; exact ⟨b, q1, q2.grow hp⟩
  | bag => exact h
theorem Rep.grow (R : Rep K ba O Hf H σ s) (hp : H p = none) : Rep K ba O Hf (upd H p o) σ s :=
  ⟨R.reg.grow hp, R.len, fun i sl x e1 e2 => (R.slot i sl x e1 e2).grow hp, R.uni⟩
theorem Reg.free (R : Reg K ba O Hf H β) (hp : H p = none) : Hf p = none ∧ O p = none ∧ ba ≠ some p := by
  refine ⟨?_, ?_, fun e => ?_⟩
  · cases q : Hf p with
    | none => rfl
    | some x => rw [R.sub _ _ q] at hp; cases hp
  · cases q : O p with
    | none => rfl
    | some x => rw [R.out _ _ q] at hp; cases hp
  · obtain ⟨⟨c, h1, _⟩, _⟩ := R.bag p e
    rw [h1] at hp; cases hp
/-- any tracked object that is held by nobody is frozen -/
theorem Reg.take (R : Reg K ba O Hf H β) (h : H p = some o) (hf : Hf p = none) (ho : O p = none) (hb : ba ≠ some p) : Reg K ba O (upd Hf p o) H β where
  sub := Same.updF R.sub h
  out := R.out
  dis := fun b q => by
    by_cases e : b = p
    · subst e; exact ho
    · rw [upd_ne e] at q
      exact R.dis b q
  bag := fun b e => by
    obtain ⟨⟨c, h1, h2⟩, h3, h4⟩ := R.bag b e
    have ne : b ≠ p := fun z => hb (z ▸ e)
    exact ⟨⟨c, h1, Rp.mono (Same.updN hf) _ _ h2⟩, by rw [upd_ne ne]; exact h3, h4⟩
/-- a new object is laid and frozen -/
theorem Rep.lay (R : Rep K ba O Hf H σ s) (hp : H p = none) : Rep K ba O (upd Hf p o) (upd H p o) σ s := by
  obtain ⟨f1, f2, f3⟩ := R.reg.free hp
  have R1 := R.grow (o := o) hp
  refine ⟨R1.reg.take upd_same f1 f2 f3, R.len, fun i sl x e1 e2 => ?_, R.uni⟩
  have q := R.slot i sl x e1 e2
  cases sl with
  | no => trivial
  | dat d => obtain ⟨w, q1, q2⟩ := q; exact ⟨w, q1, Rp.mono (Same.updN f1) _ _ q2⟩
  | own es =>
    obtain ⟨b, q1, ws, h1, h2, h3, h4, h5⟩ := q
    have ne : b ≠ p := ne_of_none h1 hp
    exact ⟨b, q1, ws, by rw [upd_ne ne]; exact h1, by rw [upd_ne ne]; exact h2, h3, h4, RpL.mono (Same.updN f1) _ _ h5⟩
  | bag => exact q
end
/-! ### what an operation hands back -/
inductive Rs where
  | dat (d : D) | fresh (ds : List D)
def Rs.rv : Rs → Rv
  | .dat d => .dat d
  | .fresh ds => .fresh ds
inductive Got (K : PySem.W.Frag) (Hf H : Hp) : Rs → V → Hp → Prop where
  | old {d : D} {v : V} : Rp K Hf d v → Got K Hf H (.dat d) v H
  | tup {ds : List D} {vs : List V} {p : Addr} : H p = none → RpL K Hf ds vs → Got K Hf H (.dat (.tuple ds)) (.ref p) (upd H p (.tup vs))
  | lst {ds : List D} {vs : List V} {p : Addr} : H p = none → RpL K Hf ds vs → Got K Hf H (.fresh ds) (.ref p) (upd H p (.lst vs))
theorem Rep.got {K : PySem.W.Frag} {ba : Option Addr} {O Hf H H' : Hp} {σ : St} {s : S} {r : Rs} {v : V} (R : Rep K ba O Hf H σ s) (g : Got K Hf H r v H') :
    ∃ Hf', Same Hf Hf' ∧ Rep K ba O Hf' H' σ s ∧ RvOk K ba O Hf' H' σ s r.rv v := by
  cases g with
  | old h => exact ⟨Hf, Same.refl _, R, h⟩
  | @tup ds vs p hp hr =>
    obtain ⟨f1, f2, f3⟩ := R.reg.free hp
    refine ⟨upd Hf p (.tup vs), Same.updN f1, R.lay hp, ?_⟩
    show Rp K _ (.tuple ds) _
    simp only [Rp]
    exact ⟨p, vs, rfl, SqT.of upd_same, RpL.mono (Same.updN f1) _ _ hr⟩
  | @lst ds vs p hp hr =>
    obtain ⟨f1, f2, f3⟩ := R.reg.free hp
    refine ⟨Hf, Same.refl _, R.grow hp, p, rfl, ⟨vs, upd_same, f1, f2, f3, hr⟩, fun i es e1 e2 => ?_⟩
    obtain ⟨b, q1, ws, h1, _⟩ := R.slot i _ _ e1 e2
    cases q1
    rw [h1] at hp
    cases hp
/-! ### meanings -/
structure Exn where
  cls : Str
  fs : List (Str × D)
abbrev M (α : Type) := S → Option (S × Except Exn α)
def M.pure {α : Type} (a : α) : M α := fun s => some (s, .ok a)
def M.stuck {α : Type} : M α := fun _ => none
def M.bind {α β : Type} (m : M α) (f : α → M β) : M β := fun s => match m s with
  | none => none
  | some (s', .error x) => some (s', .error x)
  | some (s', .ok a) => f a s'
instance : Monad M where
  pure := M.pure
  bind := M.bind
def M.lift {α : Type} (o : Option α) : M α := fun s => o.map fun a => (s, .ok a)
def Fits {α : Type} (o : Option (S × Except Exn α)) (ok : α → S → Prop) (ex : Exn → S → Prop) : Prop := match o with
  | none => False
  | some (s, .ok a) => ok a s
  | some (s, .error x) => ex x s
theorem Fits.bind {α β : Type} {m : M α} {f : α → M β} {s : S} {ok : β → S → Prop} {ex : Exn → S → Prop} (h : Fits ((M.bind m f) s) ok ex) : Fits (m s) (fun a s' => Fits (f a s') ok ex) ex := by
  unfold M.bind at h
  cases e : m s with
  | none => rw [e] at h; exact h
  | some q =>
    obtain ⟨s', r⟩ := q
    rw [e] at h
    cases r with
    | ok a => exact h
    | error x => exact h
theorem Fits.imp {α : Type} {o : Option (S × Except Exn α)} {ok ok' : α → S → Prop} {ex ex' : Exn → S → Prop} (h : Fits o ok ex) (h1 : ∀ a s, ok a s → ok' a s) (h2 : ∀ x s, ex x s → ex' x s) : Fits o ok' ex' := by
  cases o with
  | none => exact h
  | some q =>
    obtain ⟨s', r⟩ := q
    cases r with
    | ok a => exact h1 _ _ h
    | error x => exact h2 _ _ h
theorem Fits.lift {α : Type} {o : Option α} {s : S} {ok : α → S → Prop} {ex : Exn → S → Prop} (h : Fits (M.lift o s) ok ex) : ∃ a, o = some a ∧ ok a s := by
  cases o with
  | none => exact h.elim
  | some a => exact ⟨a, rfl, h⟩
/-- how an exception lies on the heap: its class, its own dict -/
def ExOk (K : PySem.W.Frag) (mg : Str → Option Value) (Hf H : Hp) (x : Exn) (c : Value) (d : Option Addr) : Prop :=
  mg x.cls = some c ∧ match x.fs with
    | [] => d = none
    | _ => ∃ e fvs, d = some e ∧ H e = some (.xd fvs) ∧ fvs.map (·.1) = x.fs.map (·.1) ∧ RpL K Hf (x.fs.map (·.2)) (fvs.map (·.2))
/-- the reading of an expression's meaning -/
def tM (K : PySem.W.Frag) (mg : Str → Option Value) (E : WX) (m : M Rv) : TE := fun σ H Q => ∃ ba O Hf s, Rep K ba O Hf H σ s ∧
  Fits (m s) (fun r s' => ∀ v H' Hf', Rep K ba O Hf' H' σ s' → Same Hf Hf' → RvOk K ba O Hf' H' σ s' r v → Q v H')
    (fun x s' => ∀ H' Hf' c d, Rep K ba O Hf' H' σ s' → Same Hf Hf' → ExOk K mg Hf' H' x c d → E c d σ H')
theorem PE.conv {X : Cx} {e : Expr} {t t' : TE} (h : PE X e t) (c : ∀ σ H Q, t' σ H Q → t σ H Q) : PE X e t' := ⟨fun pins s σ H Q I q => h.run pins s σ H Q I (c σ H Q q)⟩
theorem PT.conv {X : Cx} {e : Expr} {t t' : TT} (h : PT X e t) (c : ∀ σ H Q, t' σ H Q → t σ H Q) : PT X e t' := ⟨fun pins s σ H Q I q => h.run pins s σ H Q I (c σ H Q q)⟩
theorem PS.conv {X : Cx} {e : Stmt} {t t' : TS} (h : PS X e t) (c : ∀ D σ H, t' D σ H → t D σ H) : PS X e t' := ⟨fun pins s σ H D I q => h.run pins s σ H D I (c D σ H q)⟩
theorem PSs.conv {X : Cx} {e : List Stmt} {t t' : TS} (h : PSs X e t) (c : ∀ D σ H, t' D σ H → t D σ H) : PSs X e t' := ⟨fun pins s σ H D I q => h.run pins s σ H D I (c D σ H q)⟩
end Pu
/-! Pu2: expressions: names, constants, operations, tests. -/
namespace Pu
open PySem PySem.Spec L2
/-! ### what is borrowed, what is kept -/
def settle : Rv → Rv
  | .fresh ds => .dat (.list ds)
  | r => r
/-- a value that waits while others are reckoned -/
def Late (K : PySem.W.Frag) (ba : Option Addr) (Hf : Hp) (σ : St) : Rv → V → Prop
  | .dat d, v => Rp K Hf d v
  | .fresh _, _ => False
  | .slot i, v => σ[i]? = some (some v)
  | .bag, v => ∃ a, ba = some a ∧ v = .ref a
def peek (r : Rv) : M D := fun s => match r with
  | .dat d => some (s, .ok d)
  | .fresh ds => some (s, .ok (.list ds))
  | .slot i => match s.ρ[i]? with
    | some (.own ds) => some (s, .ok (.list ds))
    | _ => none
  | .bag => none
def retain (r : Rv) : M D := fun s => match r with
  | .dat d => some (s, .ok d)
  | .fresh ds => some (s, .ok (.list ds))
  | .slot i => match s.ρ[i]? with
    | some (.own ds) => some ({ s with ρ := s.ρ.set i (.dat (.list ds)) }, .ok (.list ds))
    | _ => none
  | .bag => none
/-- v stands for d now: as data, or as a list that somebody holds alone -/
def BRp (K : PySem.W.Frag) (Hf H : Hp) (d : D) (v : V) : Prop := Rp K Hf d v ∨ ∃ a vs ds, v = .ref a ∧ H a = some (.lst vs) ∧ d = .list ds ∧ RpL K Hf ds vs
section
variable {K : PySem.W.Frag} {ba : Option Addr} {O Hf Hf' H H' : Hp} {σ : St} {s s' : S} {d : D} {v : V} {r : Rv}
theorem Rep.settle (R : Rep K ba O Hf H σ s) (h : RvOk K ba O Hf H σ s r v) : ∃ Hf', Same Hf Hf' ∧ Rep K ba O Hf' H σ s ∧ Late K ba Hf' σ (settle r) v := by
  cases r with
  | dat d => exact ⟨Hf, Same.refl _, R, h⟩
  | fresh ds => exact R.freeze h
  | slot i => exact ⟨Hf, Same.refl _, R, h.choose_spec.2⟩
  | bag => exact ⟨Hf, Same.refl _, R, h⟩
theorem Late.mono (h : Late K ba Hf σ r v) (e : Same Hf Hf') : Late K ba Hf' σ r v := by
  cases r with
  | dat d => exact Rp.mono e _ _ h
  | fresh ds => exact h.elim
  | slot i => exact h
  | bag => exact h
/-- the reckoning of a borrowed value's datum -/
theorem peek_late {ok : D → S → Prop} {ex : Exn → S → Prop} (R : Rep K ba O Hf H σ s) (h : Late K ba Hf σ r v) (f : Fits (peek r s) ok ex) : ∃ d, ok d s ∧ BRp K Hf H d v := by
  cases r with
  | dat d => exact ⟨d, f, .inl h⟩
  | fresh ds => exact h.elim
  | slot i =>
    unfold peek at f
    cases e : s.ρ[i]? with
    | none => simp only [e] at f; exact f.elim
    | some sl =>
      cases sl with
      | own ds =>
        simp only [e] at f
        obtain ⟨a, e1, vs, h1, h2, h3, h4, h5⟩ := R.slot i _ _ e h
        cases e1
        exact ⟨.list ds, f, .inr ⟨a, vs, ds, rfl, h1, rfl, h5⟩⟩
      | no => simp only [e] at f; exact f.elim
      | dat d => simp only [e] at f; exact f.elim
      | bag => simp only [e] at f; exact f.elim
  | bag => exact f.elim
theorem peek_now {ok : D → S → Prop} {ex : Exn → S → Prop} (R : Rep K ba O Hf H σ s) (h : RvOk K ba O Hf H σ s r v) (f : Fits (peek r s) ok ex) : ∃ d, ok d s ∧ BRp K Hf H d v := by
  cases r with
  | dat d => exact ⟨d, f, .inl h⟩
  | fresh ds =>
    obtain ⟨a, rfl, ⟨vs, h1, h2, h3, h4, h5⟩, _⟩ := h
    exact ⟨.list ds, f, .inr ⟨a, vs, ds, rfl, h1, rfl, h5⟩⟩
  | slot i => exact peek_late (r := .slot i) R (h.choose_spec.2) f
  | bag => exact f.elim
theorem retain_ok {ok : D → S → Prop} {ex : Exn → S → Prop} (R : Rep K ba O Hf H σ s) (h : RvOk K ba O Hf H σ s r v) (f : Fits (retain r s) ok ex) :
    ∃ d s' Hf', ok d s' ∧ Same Hf Hf' ∧ Rep K ba O Hf' H σ s' ∧ Rp K Hf' d v := by
  cases r with
  | dat d => exact ⟨d, s, Hf, f, Same.refl _, R, h⟩
  | fresh ds =>
    obtain ⟨Hf', e, R', p⟩ := R.freeze h
    exact ⟨.list ds, s, Hf', f, e, R', p⟩
  | slot i =>
    obtain ⟨ds, h1, h2⟩ := h
    unfold retain at f
    simp only [h1] at f
    obtain ⟨Hf', e, R', p⟩ := R.freezeSlot h1 h2
    exact ⟨.list ds, _, Hf', f, e, R', p⟩
  | bag => exact f.elim
end
/-! ### one step of reading -/
section
variable {K : PySem.W.Frag} {mg : Str → Option Value} {E : WX}
/-- the exceptions' half -/
abbrev ExW (K : PySem.W.Frag) (mg : Str → Option Value) (E : WX) (ba : Option Addr) (O Hf : Hp) (σ : St) : Exn → S → Prop :=
  fun x s' => ∀ H' Hf' c d, Rep K ba O Hf' H' σ s' → Same Hf Hf' → ExOk K mg Hf' H' x c d → E c d σ H'
theorem ExW.mono {ba : Option Addr} {O Hf Hf1 : Hp} {σ : St} (e : Same Hf Hf1) {x : Exn} {s' : S} (h : ExW K mg E ba O Hf σ x s') : ExW K mg E ba O Hf1 σ x s' :=
  fun H' Hf' c d r k ex => h H' Hf' c d r (Same.trans e k) ex
/-- from a bind: the first part's reading -/
theorem tM.bind {m : M Rv} {f : Rv → M Rv} {σ : St} {H : Hp} {Q : VK} {R : V → Hp → Prop}
    (h : tM K mg E (M.bind m f) σ H Q)
    (k : ∀ ba O Hf s r v H1, Rep K ba O Hf H1 σ s → RvOk K ba O Hf H1 σ s r v → Fits (f r s) (fun r s' => ∀ v H' Hf', Rep K ba O Hf' H' σ s' → Same Hf Hf' → RvOk K ba O Hf' H' σ s' r v → Q v H') (ExW K mg E ba O Hf σ) → R v H1) :
    tM K mg E m σ H R := by
  obtain ⟨ba, O, Hf, s, R0, F⟩ := h
  refine ⟨ba, O, Hf, s, R0, F.bind.imp (fun r s' F' v H1 Hf1 R1 e1 ok1 => ?_) fun x s' q => q⟩
  exact k ba O Hf1 s' r v H1 R1 ok1 (F'.imp (fun r2 s2 q v' H' Hf' R' e' ok' => q v' H' Hf' R' (Same.trans e1 e') ok') fun x s2 q => ExW.mono e1 q)
/-- the end, by what an operation hands back -/
theorem got_end {ba : Option Addr} {O Hf H H' : Hp} {σ : St} {s : S} {res : Rs} {v : V} {Q : VK} (R : Rep K ba O Hf H σ s)
    (q : ∀ v H' Hf', Rep K ba O Hf' H' σ s → Same Hf Hf' → RvOk K ba O Hf' H' σ s res.rv v → Q v H') (g : Got K Hf H res v H') : Q v H' := by
  obtain ⟨Hf', e, R', ok⟩ := R.got g
  exact q v H' Hf' R' e ok
end
/-! ### names, constants -/
def mVar (i : Nat) : M Rv := fun s => match s.ρ[i]? with
  | some (.dat d) => some (s, .ok (.dat d))
  | some (.own _) => some (s, .ok (.slot i))
  | some .bag => some (s, .ok .bag)
  | _ => none
def mC (d : D) : M Rv := fun s => some (s, .ok (.dat d))
section
variable {X : Cx} {E : WX}
abbrev EV (X : Cx) (E : WX) (e : Expr) (m : M Rv) : Prop := PE X e (tM X.K X.mg E m)
theorem ev_var {e : Expr} {i : Nat} (h : PE X e (tVar i)) : EV X E e (mVar i) := PE.conv h fun σ H Q q => by
  obtain ⟨ba, O, Hf, s, R, F⟩ := q
  unfold mVar at F
  cases e : s.ρ[i]? with
  | none => simp only [e] at F; exact F.elim
  | some sl =>
    obtain ⟨x, e2, ok⟩ := R.at e
    cases sl with
    | no => simp only [e] at F; exact F.elim
    | dat d =>
      simp only [e] at F
      obtain ⟨v, rfl, p⟩ := ok
      exact ⟨v, e2, F v H Hf R (Same.refl _) p⟩
    | own ds =>
      simp only [e] at F
      obtain ⟨a, rfl, p⟩ := ok
      exact ⟨_, e2, F _ H Hf R (Same.refl _) ⟨ds, e, e2⟩⟩
    | bag =>
      simp only [e] at F
      obtain ⟨a, h1, rfl⟩ := ok
      exact ⟨_, e2, F _ H Hf R (Same.refl _) ⟨a, h1, rfl⟩⟩
theorem ev_c {e : Expr} {d : D} {v : V} (h : PE X e (tC v)) (hv : ∀ H, Rp X.K H d v) : EV X E e (mC d) := PE.conv h fun σ H Q q => by
  obtain ⟨ba, O, Hf, s, R, F⟩ := q
  exact F v H Hf R (Same.refl _) (hv Hf)
theorem ev_int {i : Int} {j : Nat} {pos : Pos} : EV X E (.Constant (.int i) j pos) (mC (.int i)) := ev_c pe_int fun _ => by simp only [Rp]
theorem ev_bl {b : Bool} {j : Nat} {pos : Pos} : EV X E (.Constant (.bool b) j pos) (mC (.bool b)) := ev_c pe_bl fun _ => by simp only [Rp]
theorem ev_non {j : Nat} {pos : Pos} : EV X E (.Constant .none j pos) (mC .none) := ev_c pe_non fun _ => by simp only [Rp]
theorem ev_str {x : Str} {j : Nat} {pos : Pos} : EV X E (.Constant (.str x) j pos) (mC (.str x)) := ev_c pe_str fun _ => by simp only [Rp]
theorem ev_gInt {x : Str} {i : Int} {t : Tok} {pos : Pos} (hg : Gl X x) (hm : X.mg x = some (.int i t)) (hd : (x == ("__debug__" : Str)) = false := by decide) : EV X E (.Name x pos) (mC (.int i)) :=
  ev_c (v := .int i) (pe_glob hg hm ⟨_, rfl⟩ hd) fun _ => by simp only [Rp]
theorem ev_gStr {x : Str} {i : Str} {t : Tok} {pos : Pos} (hg : Gl X x) (hm : X.mg x = some (.str i t)) (hd : (x == ("__debug__" : Str)) = false := by decide) : EV X E (.Name x pos) (mC (.str i)) :=
  ev_c (v := .str i) (pe_glob hg hm ⟨_, rfl⟩ hd) fun _ => by simp only [Rp]
end
/-! ### operations -/
/-- a two-place operation on data -/
def Op2 (K : PySem.W.Frag) (r : R2) (f : D → D → Option Rs) : Prop := ∀ (Hf H : Hp) (d1 d2 : D) (x y : V) (res : Rs) (Q : VK), Same Hf H → BRp K Hf H d1 x → BRp K Hf H d2 y → f d1 d2 = some res →
  (∀ v H', Got K Hf H res v H' → Q v H') → r x y H Q
def Op1 (K : PySem.W.Frag) (r : V → Hp → VK → Prop) (f : D → Option Rs) : Prop := ∀ (Hf H : Hp) (d : D) (x : V) (res : Rs) (Q : VK), Same Hf H → BRp K Hf H d x → f d = some res → (∀ v H', Got K Hf H res v H' → Q v H') → r x H Q
def mBin (f : D → D → Option Rs) (m1 m2 : M Rv) : M Rv := M.bind m1 fun r1 => M.bind m2 fun r2 => M.bind (peek (settle r1)) fun d1 => M.bind (peek r2) fun d2 => M.bind (M.lift (f d1 d2)) fun r => M.pure r.rv
def mUn (f : D → Option Rs) (m : M Rv) : M Rv := M.bind m fun r => M.bind (peek r) fun d => M.bind (M.lift (f d)) fun r => M.pure r.rv
section
variable {X : Cx} {E : WX} {a b : Expr} {m1 m2 : M Rv}
theorem bin_conv {r : R2} {f : D → D → Option Rs} (hf : Op2 X.K r f) {σ : St} {H : Hp} {Q : VK} (q : tM X.K X.mg E (mBin f m1 m2) σ H Q) : tOp r (tM X.K X.mg E m1) (tM X.K X.mg E m2) σ H Q := by
  refine tM.bind q fun ba O Hf s r1 v1 H1 R1 ok1 F => ?_
  obtain ⟨Hf1, e1, R1', lt⟩ := R1.settle ok1
  refine ⟨ba, O, Hf1, s, R1', F.bind.imp (fun r2 s2 F2 v2 H2 Hf2 R2 e2 ok2 => ?_) fun x s' q => ExW.mono e1 q⟩
  obtain ⟨d1, F3, b1⟩ := peek_late R2 (lt.mono e2) F2.bind
  obtain ⟨d2, F4, b2⟩ := peek_now R2 ok2 F3.bind
  obtain ⟨res, e5, F5⟩ := F4.bind.lift
  refine hf Hf2 H2 d1 d2 v1 v2 res Q R2.reg.sub b1 b2 e5 fun v H' g => ?_
  exact got_end (K := X.K) R2 (fun v H' Hf' R' e' ok' => F5 v H' Hf' R' (Same.trans e1 (Same.trans e2 e')) ok') g
theorem ev_bin {op : Operator} {pos : Pos} {r : R2} {f : D → D → Option Rs} (ho : OpR X (binaryOp op) r) (hf : Op2 X.K r f) (ha : EV X E a m1) (hb : EV X E b m2) : EV X E (.BinOp a op b pos) (mBin f m1 m2) :=
  PE.conv (pe_op ho ha hb) fun σ H Q q => bin_conv hf q
theorem ev_cmp {op : CmpOp} {pos : Pos} {r : R2} {f : D → D → Option Rs} (ho : OpR X (compareOp op) r) (hf : Op2 X.K r f) (ha : EV X E a m1) (hb : EV X E b m2) (hm : behindInMarks op b = false) : EV X E (.Compare a [op] [b] pos) (mBin f m1 m2) :=
  PE.conv (pe_cmpR ho ha hb hm) fun σ H Q q => bin_conv hf q
theorem un_conv {r : V → Hp → VK → Prop} {f : D → Option Rs} (hf : Op1 X.K r f) {σ : St} {H : Hp} {Q : VK} (q : tM X.K X.mg E (mUn f m1) σ H Q) : tM X.K X.mg E m1 σ H fun x H1 => r x H1 Q := by
  refine tM.bind q fun ba O Hf s r1 v1 H1 R1 ok1 F => ?_
  obtain ⟨d, F3, b1⟩ := peek_now R1 ok1 F.bind
  obtain ⟨res, e5, F5⟩ := F3.bind.lift
  exact hf Hf H1 d v1 res Q R1.reg.sub b1 e5 fun v H' g => got_end (K := X.K) R1 F5 g
theorem ev_un {op : UnaryOp} {pos : Pos} {r : V → Hp → VK → Prop} {f : D → Option Rs} (ho : UnR X (unaryOp op) r) (hf : Op1 X.K r f) (ha : EV X E a m1) : EV X E (.UnaryOp op a pos) (mUn f m1) :=
  PE.conv (pe_un ho ha) fun σ H Q q => un_conv hf q
theorem ev_ix {pos : Pos} {r : R2} {f : D → D → Option Rs} (hr : IxR X r) (hf : Op2 X.K r f) (ha : EV X E a m1) (hb : EV X E b m2) (hs : PlainIx b) : EV X E (.Subscript a b pos) (mBin f m1 m2) :=
  PE.conv (pe_ix hr ha hb hs) fun σ H Q q => bin_conv hf q
end
/-! ### tests -/
/-- the reading of a test's meaning -/
def tMT (K : PySem.W.Frag) (mg : Str → Option Value) (E : WX) (m : M Bool) : TT := fun σ H Q => ∃ ba O Hf s, Rep K ba O Hf H σ s ∧
  Fits (m s) (fun b s' => ∀ H' Hf', Rep K ba O Hf' H' σ s' → Same Hf Hf' → Q b H') (ExW K mg E ba O Hf σ)
abbrev ET (X : Cx) (E : WX) (e : Expr) (m : M Bool) : Prop := PT X e (tMT X.K X.mg E m)
def truD : D → Option Bool
  | .none => some false
  | .bool b => some b
  | .int i => some (i != 0)
  | .str x => if x.length ≤ sizeLine then some ((x.length : Int) != 0) else none
  | .list xs => some (!xs.isEmpty)
  | .tuple xs => some (!xs.isEmpty)
  | .dict xs => some (!xs.isEmpty)
theorem RpL.empty {K : PySem.W.Frag} {H : Hp} {ds : List D} {vs : List V} (h : RpL K H ds vs) : vs.isEmpty = ds.isEmpty := by
  cases ds with
  | nil => rw [h.nil_inv]; rfl
  | cons d ds => obtain ⟨v, r, rfl, _⟩ := h.cons_inv; rfl
theorem RpK.length {K : PySem.W.Frag} {H : Hp} : ∀ {kvs : List (D × D)} {ws : List (Key × V)}, RpK K H kvs ws → ws.length = kvs.length
  | [], ws, h => by
    have e : ws = [] := by simpa only [RpK] using h
    rw [e]; rfl
  | (k, d) :: r, ws, h => by
    simp only [RpK] at h
    obtain ⟨kk, v, t, rfl, _, _, h4⟩ := h
    rw [List.length_cons, List.length_cons, RpK.length h4]
theorem tru_of {K : PySem.W.Frag} {Hf H : Hp} {d : D} {v : V} {k : Bool} (e : Same Hf H) (h : BRp K Hf H d v) (t : truD d = some k) : TruV K v H k := by
  rcases h with h | ⟨a, vs, ds, rfl, h1, rfl, h2⟩
  · cases d with
    | none => simp only [Rp] at h; subst h; cases t; rfl
    | bool b => simp only [Rp] at h; subst h; cases t; rfl
    | int i => simp only [Rp] at h; subst h; cases t; rfl
    | str x =>
      simp only [Rp] at h; subst h
      simp only [truD] at t
      split at t
      · cases t; exact ⟨by assumption, rfl⟩
      · cases t
    | list xs =>
      simp only [Rp] at h
      obtain ⟨a, vs, rfl, h1, h2⟩ := h
      cases t
      exact .inl ⟨vs, Same.sqL e h1, by rw [h2.empty]⟩
    | tuple xs =>
      simp only [Rp] at h
      obtain ⟨a, vs, rfl, h1, h2⟩ := h
      cases t
      exact .inr (.inl ⟨vs, Same.sqT e h1, by rw [h2.empty]⟩)
    | dict xs =>
      simp only [Rp] at h
      obtain ⟨a, ws, rfl, h1, h2⟩ := h
      cases t
      refine .inr (.inr ⟨ws, e _ _ h1, ?_⟩)
      have := h2.length
      cases xs <;> cases ws <;> simp_all
  · cases t
    exact .inl ⟨vs, SqL.of h1, by rw [h2.empty]⟩
def mTru (m : M Rv) : M Bool := M.bind m fun r => M.bind (peek r) fun d => M.lift (truD d)
/-- a comparison's answer -/
def mIs (m : M Rv) : M Bool := M.bind m fun r => match r with
  | .dat (.bool b) => M.pure b
  | _ => M.stuck
def mNotT (m : M Bool) : M Bool := M.bind m fun b => M.pure (!b)
def mAndT (m n : M Bool) : M Bool := M.bind m fun b => if b then n else M.pure false
def mOrT (m n : M Bool) : M Bool := M.bind m fun b => if b then M.pure true else n
section
variable {X : Cx} {E : WX} {a b : Expr} {m : M Rv} {n n1 n2 : M Bool} {rest : List Expr} {pos : Pos}
theorem tM.bindT {m : M Rv} {f : Rv → M Bool} {σ : St} {H : Hp} {Q : Bool → Hp → Prop} {R : V → Hp → Prop}
    (h : tMT X.K X.mg E (M.bind m f) σ H Q)
    (k : ∀ ba O Hf s r v H1, Rep X.K ba O Hf H1 σ s → RvOk X.K ba O Hf H1 σ s r v → Fits (f r s) (fun b s' => ∀ H' Hf', Rep X.K ba O Hf' H' σ s' → Same Hf Hf' → Q b H') (ExW X.K X.mg E ba O Hf σ) → R v H1) :
    tM X.K X.mg E m σ H R := by
  obtain ⟨ba, O, Hf, s, R0, F⟩ := h
  refine ⟨ba, O, Hf, s, R0, F.bind.imp (fun r s' F' v H1 Hf1 R1 e1 ok1 => ?_) fun x s' q => q⟩
  exact k ba O Hf1 s' r v H1 R1 ok1 (F'.imp (fun r2 s2 q H' Hf' R' e' => q H' Hf' R' (Same.trans e1 e')) fun x s2 q => ExW.mono e1 q)
theorem et_truth (ha : EV X E a m) (he : ∀ whole, isTrue a X.env whole = (do let v ← whole; standAt a.pos; holding [v] (truthy v)) := by intro _; rfl) : ET X E a (mTru m) :=
  PT.conv (pt_truth ha he) fun σ H Q q => tM.bindT q fun ba O Hf s r v H1 R ok F => by
    obtain ⟨d, F2, b1⟩ := peek_now R ok F.bind
    obtain ⟨k, e, F3⟩ := F2.lift
    exact ⟨k, tru_of R.reg.sub b1 e, F3 H1 Hf R (Same.refl _)⟩
/-- from a rule that reads «a bool comes» -/
theorem is_conv {t : TE} {σ : St} {H : Hp} {Q : Bool → Hp → Prop} (c : ∀ Q', tM X.K X.mg E m σ H Q' → t σ H Q') (q : tMT X.K X.mg E (mIs m) σ H Q) : tTest t σ H Q :=
  c _ (tM.bindT q fun ba O Hf s r v H1 R ok F => by
    cases r with
    | dat d =>
      cases d with
      | bool b =>
        have e : v = .bl b := by
          have ok' : Rp X.K Hf (.bool b) v := ok
          simpa only [Rp] using ok'
        exact ⟨b, e, F H1 Hf R (Same.refl _)⟩
      | _ => exact F.elim
    | _ => exact F.elim)
theorem et_val (ha : EV X E a m) (he : ∀ whole, isTrue a X.env whole = (do let v ← whole; standAt a.pos; holding [v] (truthy v)) := by intro _; rfl) : ET X E a (mIs m) :=
  PT.conv (pt_val ha he) fun σ H Q q => is_conv (t := tM X.K X.mg E m) (fun _ q => q) q
theorem et_cmp {op : CmpOp} {r : R2} {f : D → D → Option Rs} {m1 m2 : M Rv} (ho : OpR X (compareOp op) r) (hf : Op2 X.K r f) (ha : EV X E a m1) (hb : EV X E b m2) (hm : behindInMarks op b = false) : ET X E (.Compare a [op] [b] pos) (mIs (mBin f m1 m2)) :=
  PT.conv (pt_cmpR ho ha hb hm) fun σ H Q q => is_conv (fun _ q => bin_conv hf q) q
theorem et_not (ha : ET X E a n) : ET X E (.UnaryOp .Not a pos) (mNotT n) := PT.conv (pt_not ha) fun σ H Q q => by
  obtain ⟨ba, O, Hf, s, R, F⟩ := q
  exact ⟨ba, O, Hf, s, R, F.bind⟩
abbrev EW (X : Cx) (E : WX) (e : Expr) (m : M Bool) : Prop := PW X e (tMT X.K X.mg E m)
theorem PW.conv {e : Expr} {t t' : TT} (h : PW X e t) (c : ∀ σ H Q, t' σ H Q → t σ H Q) : PW X e t' := ⟨fun w pins s σ H Q I q => h.run w pins s σ H Q I (c σ H Q q)⟩
theorem tMT.bind {g : Bool → M Bool} {σ : St} {H : Hp} {Q R : Bool → Hp → Prop} (h : tMT X.K X.mg E (M.bind n g) σ H Q)
    (k : ∀ ba O Hf s b H1, Rep X.K ba O Hf H1 σ s → Fits (g b s) (fun b s' => ∀ H' Hf', Rep X.K ba O Hf' H' σ s' → Same Hf Hf' → Q b H') (ExW X.K X.mg E ba O Hf σ) → R b H1) : tMT X.K X.mg E n σ H R := by
  obtain ⟨ba, O, Hf, s, R0, F⟩ := h
  refine ⟨ba, O, Hf, s, R0, F.bind.imp (fun r s' F' H1 Hf1 R1 e1 => ?_) fun x s' q => q⟩
  exact k ba O Hf1 s' r H1 R1 (F'.imp (fun r2 s2 q H' Hf' R' e' => q H' Hf' R' (Same.trans e1 e')) fun x s2 q => ExW.mono e1 q)
theorem ew_and1 (ha : ET X E a n) : EW X E (.BoolOp .And [a] pos) n := pw_and1 ha
theorem ew_or1 (ha : ET X E a n) : EW X E (.BoolOp .Or [a] pos) n := pw_or1 ha
theorem ew_and (ha : ET X E a n1) (hb : EW X E (.BoolOp .And (b :: rest) pos) n2) : EW X E (.BoolOp .And (a :: b :: rest) pos) (mAndT n1 n2) :=
  PW.conv (pw_and ha hb) fun σ H Q q => tMT.bind q fun ba O Hf s b H1 R F => by
    cases b with
    | true => exact ⟨ba, O, Hf, s, R, F⟩
    | false => exact F H1 Hf R (Same.refl _)
theorem ew_or (ha : ET X E a n1) (hb : EW X E (.BoolOp .Or (b :: rest) pos) n2) : EW X E (.BoolOp .Or (a :: b :: rest) pos) (mOrT n1 n2) :=
  PW.conv (pw_or ha hb) fun σ H Q q => tMT.bind q fun ba O Hf s b H1 R F => by
    cases b with
    | false => exact ⟨ba, O, Hf, s, R, F⟩
    | true => exact F H1 Hf R (Same.refl _)
theorem et_w {e : Expr} (h : EW X E e n) : ET X E e n := h.pt
/-! ### and, or, not, if as values -/
def mAndV (m1 m2 : M Rv) : M Rv := M.bind m1 fun r => match r with
  | .dat (.bool true) => m2
  | .dat (.bool false) => M.pure (.dat (.bool false))
  | _ => M.stuck
def mOrV (m1 m2 : M Rv) : M Rv := M.bind m1 fun r => match r with
  | .dat (.bool true) => M.pure (.dat (.bool true))
  | .dat (.bool false) => m2
  | _ => M.stuck
def mNotV (m : M Rv) : M Rv := M.bind m fun r => match r with
  | .dat (.bool b) => M.pure (.dat (.bool (!b)))
  | _ => M.stuck
def mIf (n : M Bool) (m1 m2 : M Rv) : M Rv := M.bind n fun b => if b then m1 else m2
theorem rp_bl {K : PySem.W.Frag} {Hf : Hp} {b : Bool} {v : V} (h : Rp K Hf (.bool b) v) : v = .bl b := by simpa only [Rp] using h
theorem bl_rp {K : PySem.W.Frag} {Hf : Hp} {b : Bool} : Rp K Hf (.bool b) (.bl b) := by simp only [Rp]
theorem rp_int {K : PySem.W.Frag} {Hf : Hp} {b : Int} {v : V} (h : Rp K Hf (.int b) v) : v = .int b := by simpa only [Rp] using h
theorem int_rp {K : PySem.W.Frag} {Hf : Hp} {b : Int} : Rp K Hf (.int b) (.int b) := by simp only [Rp]
theorem str_rp {K : PySem.W.Frag} {Hf : Hp} {b : Str} : Rp K Hf (.str b) (.str b) := by simp only [Rp]
theorem rp_str {K : PySem.W.Frag} {Hf : Hp} {b : Str} {v : V} (h : Rp K Hf (.str b) v) : v = .str b := by simpa only [Rp] using h
theorem ev_one {op} (h : EV X E a m) : EV X E (.BoolOp op [a] pos) m := pe_one h
theorem ev_and {m1 m2 : M Rv} (ha : EV X E a m1) (hb : EV X E (.BoolOp .And (b :: rest) pos) m2) : EV X E (.BoolOp .And (a :: b :: rest) pos) (mAndV m1 m2) :=
  PE.conv (pe_and ha hb) fun σ H Q q => tM.bind q fun ba O Hf s r v H1 R ok F => by
    cases r with
    | dat d =>
      cases d with
      | bool b =>
        refine ⟨b, rp_bl (K := X.K) (Hf := Hf) ok, ?_⟩
        cases b with
        | true => exact ⟨ba, O, Hf, s, R, F⟩
        | false => exact F _ H1 Hf R (Same.refl _) (bl_rp (K := X.K) (Hf := Hf))
      | _ => exact F.elim
    | _ => exact F.elim
theorem ev_or {m1 m2 : M Rv} (ha : EV X E a m1) (hb : EV X E (.BoolOp .Or (b :: rest) pos) m2) : EV X E (.BoolOp .Or (a :: b :: rest) pos) (mOrV m1 m2) :=
  PE.conv (pe_or ha hb) fun σ H Q q => tM.bind q fun ba O Hf s r v H1 R ok F => by
    cases r with
    | dat d =>
      cases d with
      | bool b =>
        refine ⟨b, rp_bl (K := X.K) (Hf := Hf) ok, ?_⟩
        cases b with
        | false => exact ⟨ba, O, Hf, s, R, F⟩
        | true => exact F _ H1 Hf R (Same.refl _) (bl_rp (K := X.K) (Hf := Hf))
      | _ => exact F.elim
    | _ => exact F.elim
theorem ev_not (ha : EV X E a m) : EV X E (.UnaryOp .Not a pos) (mNotV m) :=
  PE.conv (pe_not ha) fun σ H Q q => tM.bind q fun ba O Hf s r v H1 R ok F => by
    cases r with
    | dat d =>
      cases d with
      | bool b => exact ⟨b, rp_bl (K := X.K) (Hf := Hf) ok, F _ H1 Hf R (Same.refl _) (bl_rp (K := X.K) (Hf := Hf))⟩
      | _ => exact F.elim
    | _ => exact F.elim
theorem ev_if {c : Expr} {m1 m2 : M Rv} (hc : ET X E c n) (ha : EV X E a m1) (hb : EV X E b m2) : EV X E (.IfExp c a b pos) (mIf n m1 m2) :=
  PE.conv (pe_ifExp hc ha hb) fun σ H Q q => by
    obtain ⟨ba, O, Hf, s, R0, F⟩ := q
    refine ⟨ba, O, Hf, s, R0, F.bind.imp (fun b s' F' H1 Hf1 R1 e1 => ?_) fun x s' q => q⟩
    have F2 : Fits ((if b then m1 else m2) s') (fun r s' => ∀ v H' Hf', Rep X.K ba O Hf' H' σ s' → Same Hf1 Hf' → RvOk X.K ba O Hf' H' σ s' r v → Q v H') (ExW X.K X.mg E ba O Hf1 σ) :=
      F'.imp (fun r2 s2 q v' H' Hf' R' e' ok' => q v' H' Hf' R' (Same.trans e1 e') ok') fun x s2 q => ExW.mono e1 q
    cases b with
    | true => exact ⟨ba, O, Hf1, s', R1, F2⟩
    | false => exact ⟨ba, O, Hf1, s', R1, F2⟩
end
end Pu
/-! Pu3: the operations on data. -/
namespace Pu
open PySem PySem.Spec L2
section
variable {K : PySem.W.Frag} {Hf H : Hp}
theorem brp_int {i : Int} {x : V} (h : BRp K Hf H (.int i) x) : x = .int i := by
  rcases h with h | ⟨a, vs, ds, _, _, e, _⟩
  · simpa only [Rp] using h
  · cases e
theorem brp_bl {i : Bool} {x : V} (h : BRp K Hf H (.bool i) x) : x = .bl i := by
  rcases h with h | ⟨a, vs, ds, _, _, e, _⟩
  · simpa only [Rp] using h
  · cases e
theorem brp_str {i : Str} {x : V} (h : BRp K Hf H (.str i) x) : x = .str i := by
  rcases h with h | ⟨a, vs, ds, _, _, e, _⟩
  · simpa only [Rp] using h
  · cases e
theorem brp_non {x : V} (h : BRp K Hf H .none x) : x = .non := by
  rcases h with h | ⟨a, vs, ds, _, _, e, _⟩
  · simpa only [Rp] using h
  · cases e
theorem brp_list {ds : List D} {x : V} (s : Same Hf H) (h : BRp K Hf H (.list ds) x) : ∃ a vs, x = .ref a ∧ SqL K H a vs ∧ RpL K Hf ds vs := by
  rcases h with h | ⟨a, vs, es, h1, h2, e, h3⟩
  · simp only [Rp] at h
    obtain ⟨a, vs, h1, h2, h3⟩ := h
    exact ⟨a, vs, h1, Same.sqL s h2, h3⟩
  · cases e
    exact ⟨a, vs, h1, SqL.of h2, h3⟩
theorem brp_tup {ds : List D} {x : V} (s : Same Hf H) (h : BRp K Hf H (.tuple ds) x) : ∃ a vs, x = .ref a ∧ SqT K H a vs ∧ RpL K Hf ds vs := by
  rcases h with h | ⟨a, vs, es, h1, h2, e, h3⟩
  · simp only [Rp] at h
    obtain ⟨a, vs, h1, h2, h3⟩ := h
    exact ⟨a, vs, h1, Same.sqT s h2, h3⟩
  · cases e
theorem brp_dict {ds : List (D × D)} {x : V} (s : Same Hf H) (h : BRp K Hf H (.dict ds) x) : ∃ a ws, x = .ref a ∧ H a = some (.dK ws) ∧ RpK K Hf ds ws := by
  rcases h with h | ⟨a, vs, es, h1, h2, e, h3⟩
  · simp only [Rp] at h
    obtain ⟨a, vs, h1, h2, h3⟩ := h
    exact ⟨a, vs, h1, s _ _ h2, h3⟩
  · cases e
end
/-! ### on the model's own heap -/
section
variable {X : Cx} {pins : List (Addr × Obj)} {σ : St} {H Hf : Hp} {s : Shared}
mutual
theorem reads_of (I : Inv X pins σ H s) (e : Same Hf H) : ∀ (d : D) (v : V) (u : Value), Rp X.K Hf d v → RelV v u → d.plain = true → ∃ as, Reads s.heap u d as
  | .none, _, _, h, r, _ => by
    simp only [Rp] at h; subst h; cases r; exact ⟨_, .none⟩
  | .bool b, _, _, h, r, _ => by
    simp only [Rp] at h; subst h; cases r; exact ⟨_, .bool b⟩
  | .int i, _, _, h, r, _ => by
    simp only [Rp] at h; subst h; obtain ⟨t, rfl⟩ := r; exact ⟨_, .int i t⟩
  | .str x, _, _, h, r, _ => by
    simp only [Rp] at h; subst h; obtain ⟨t, rfl⟩ := r; exact ⟨_, .str x t⟩
  | .list ds, _, _, h, r, p => by
    simp only [Rp] at h
    obtain ⟨a, vs, rfl, h2, h3⟩ := h
    cases r
    obtain ⟨its, rv, pl, hz⟩ := I.list (Same.sqL e h2)
    obtain ⟨o, ho, hc, n, hd⟩ := pl.isList; obtain ⟨as, q⟩ := readsAll_of I e ds vs its h3 rv (by simpa only [PyData.plain] using p)
    exact ⟨_, .list ho hc hd (by simpa using q)⟩
  | .tuple ds, _, _, h, r, p => by
    simp only [Rp] at h
    obtain ⟨a, vs, rfl, h2, h3⟩ := h
    cases r
    obtain ⟨its, rv, ⟨o, ho, hc, n, hd⟩, hz⟩ := I.tuple (Same.sqT e h2)
    obtain ⟨as, q⟩ := readsAll_of I e ds vs its h3 rv (by simpa only [PyData.plain] using p)
    exact ⟨_, .tuple ho hc hd (by simpa using q)⟩
  | .dict _, _, _, _, _, p => by simp [PyData.plain] at p
theorem readsAll_of (I : Inv X pins σ H s) (e : Same Hf H) : ∀ (ds : List D) (vs : List V) (us : List Value), RpL X.K Hf ds vs → Vals vs us → PyData.plainAll ds = true → ∃ as, ReadsAll s.heap us ds as
  | [], _, _, h, r, _ => by
    rw [h.nil_inv] at r
    cases r
    exact ⟨_, .nil⟩
  | d :: ds, _, _, h, r, p => by
    obtain ⟨v, vr, rfl, h1, h2⟩ := h.cons_inv
    cases r with
    | cons r1 r2 =>
      have p' : d.plain = true ∧ PyData.plainAll ds = true := by simpa [PyData.plainAll] using p
      obtain ⟨as, q1⟩ := reads_of I e d v _ h1 r1 p'.1
      obtain ⟨bs, q2⟩ := readsAll_of I e ds vr _ h2 r2 p'.2
      exact ⟨_, .cons q1 q2⟩
end
theorem reads_b (I : Inv X pins σ H s) (e : Same Hf H) {d : D} {v : V} {u : Value} (h : BRp X.K Hf H d v) (r : RelV v u) (p : d.plain = true) : ∃ as, Reads s.heap u d as := by
  rcases h with h | ⟨a, vs, ds, rfl, h2, rfl, h3⟩
  · exact reads_of I e d v u h r p
  · cases r
    obtain ⟨hz, its, n, rv, ho⟩ := I.hok a _ h2
    obtain ⟨as, q⟩ := readsAll_of I e ds vs its h3 rv (by simpa only [PyData.plain] using p)
    exact ⟨_, .list ho rfl rfl (by simpa using q)⟩
end
/-! ### == and != -/
def okD (d : D) : Bool := d.plain && decide (d.depth ≤ 50)
def dEqB (a b : D) : Option Bool := match a, b with
  | .int i, .int j => some (decide (i = j))
  | .str i, .str j => some (decide (i = j))
  | a, b => if okD a && okD b then some (PyData.eqv a b) else none
def dEq (a b : D) : Option Rs := (dEqB a b).map fun k => .dat (.bool k)
def dNe (a b : D) : Option Rs := (dEqB a b).map fun k => .dat (.bool (!k))
def rD2 (K : PySem.W.Frag) (f : D → D → Option Bool) : R2 := fun x y H Q => ∃ Hf d1 d2 k, Same Hf H ∧ BRp K Hf H d1 x ∧ BRp K Hf H d2 y ∧ f d1 d2 = some k ∧ Q (.bl k) H
theorem op2_D {K : PySem.W.Frag} {f : D → D → Option Bool} : Op2 K (rD2 K f) (fun a b => (f a b).map fun k => .dat (.bool k)) := by
  intro Hf H d1 d2 x y res Q e b1 b2 er q
  obtain ⟨k, ek, rfl⟩ := Option.map_eq_some_iff.mp er
  exact ⟨Hf, d1, d2, k, e, b1, b2, ek, q _ _ (.old (by simp only [Rp]))⟩
section
variable {X : Cx}
theorem op_eqD (hu : X.A.units + 64 < cLine) : OpR X (compareOp .Eq) (rD2 X.K dEqB) := by
  intro pins s σ H x y v u Q I rx ry h; obtain ⟨Hf, d1, d2, k, e, b1, b2, ek, q⟩ := h
  have gen : (okD d1 && okD d2) = true → k = PyData.eqv d1 d2 → wpAny (model X.prog X.w) X.A (compareOp .Eq v u) (EP X pins σ Q) X.xe s := fun ho hk => by
    simp only [okD, Bool.and_eq_true, decide_eq_true_eq] at ho
    obtain ⟨as, r1⟩ := reads_b I e b1 rx ho.1.1
    obtain ⟨bs, r2⟩ := reads_b I e b2 ry ho.2.1
    have h1 := ho.1.2
    refine PySem.SeqAt.eq_plain r1 r2 ho.1.1 ho.2.1 (by have := Nat.min_le_left d1.depth d2.depth; omega) ⟨.bl k, H, I, ?_, q⟩
    rw [hk]; rfl
  unfold dEqB at ek
  split at ek
  · cases ek
    obtain rfl := brp_int b1
    obtain rfl := brp_int b2
    obtain ⟨t, rfl⟩ := rx
    obtain ⟨t', rfl⟩ := ry
    exact PyProof.Rows.eq_int ⟨.bl _, H, I, by rw [Bool.beq_eq_decide_eq]; rfl, q⟩
  · cases ek
    obtain rfl := brp_str b1
    obtain rfl := brp_str b2
    obtain ⟨t, rfl⟩ := rx
    obtain ⟨t', rfl⟩ := ry
    exact PyProof.Rows.eq_str ⟨.bl _, H, I, by rw [Bool.beq_eq_decide_eq]; rfl, q⟩
  · split at ek
    · cases ek
      exact gen (by assumption) rfl
    · cases ek
theorem op_neD (hu : X.A.units + 64 < cLine) : OpR X (compareOp .NotEq) (rD2 X.K fun a b => (dEqB a b).map (!·)) := by
  intro pins s σ H x y v u Q I rx ry h; obtain ⟨Hf, d1, d2, k', e, b1, b2, ek', q⟩ := h
  obtain ⟨k, ek, rfl⟩ := Option.map_eq_some_iff.mp ek'
  have gen : (okD d1 && okD d2) = true → k = PyData.eqv d1 d2 → wpAny (model X.prog X.w) X.A (compareOp .NotEq v u) (EP X pins σ Q) X.xe s := fun ho hk => by
    simp only [okD, Bool.and_eq_true, decide_eq_true_eq] at ho
    obtain ⟨as, r1⟩ := reads_b I e b1 rx ho.1.1
    obtain ⟨bs, r2⟩ := reads_b I e b2 ry ho.2.1
    have h1 := ho.1.2
    refine PySem.SeqAt.ne_plain r1 r2 ho.1.1 ho.2.1 (by have := Nat.min_le_left d1.depth d2.depth; omega) ⟨.bl (!k), H, I, ?_, q⟩
    rw [hk]; rfl
  unfold dEqB at ek
  split at ek
  · cases ek
    obtain rfl := brp_int b1
    obtain rfl := brp_int b2
    obtain ⟨t, rfl⟩ := rx
    obtain ⟨t', rfl⟩ := ry
    exact PyProof.Rows.ne_int ⟨.bl _, H, I, by rw [bne, Bool.beq_eq_decide_eq]; rfl, q⟩
  · cases ek
    obtain rfl := brp_str b1
    obtain rfl := brp_str b2
    obtain ⟨t, rfl⟩ := rx
    obtain ⟨t', rfl⟩ := ry
    exact PyProof.Rows.ne_str ⟨.bl _, H, I, by rw [bne, Bool.beq_eq_decide_eq]; rfl, q⟩
  · split at ek
    · cases ek
      exact gen (by assumption) rfl
    · cases ek
/-! ### <, <=, >, >= -/
def ltOk (a b : D) : Bool := PySem.W.alike a b && a.plain && b.plain && decide (a.depth ≤ 50) && (match a with | .none => false | _ => true)
def dLtB (a b : D) : Option Bool := match a, b with
  | .int i, .int j => some (decide (i < j))
  | a, b => if ltOk a b then some (PySem.W.dataLt a b) else none
def dLeB (a b : D) : Option Bool := match a, b with
  | .int i, .int j => some (decide (i ≤ j))
  | a, b => if ltOk a b then some (!PySem.W.dataLt b a) else none
def dGtB (a b : D) : Option Bool := match a, b with
  | .int i, .int j => some (decide (j < i))
  | a, b => if ltOk a b then some (PySem.W.dataLt b a) else none
def dGeB (a b : D) : Option Bool := match a, b with
  | .int i, .int j => some (decide (j ≤ i))
  | a, b => if ltOk a b then some (!PySem.W.dataLt a b) else none
theorem ltOk_inv {a b : D} (h : ltOk a b = true) : PySem.W.alike a b = true ∧ a.plain = true ∧ b.plain = true ∧ a.depth ≤ 50 ∧ a ≠ .none := by
  simp only [ltOk, Bool.and_eq_true, decide_eq_true_eq] at h
  refine ⟨h.1.1.1.1, h.1.1.1.2, h.1.1.2, h.1.2, fun z => ?_⟩
  subst z
  simp at h
theorem cmp_gen {op : CmpOp} {g : D → D → Bool} (hu : X.A.units + 64 < cLine)
    (rule : ∀ {s : Shared} {a b : Value} {da db : D} {as bs : List Addr} {Q : Value → Shared → Prop}, Reads s.heap a da as → Reads s.heap b db bs → PySem.W.alike da db = true → da ≠ .none → X.A.units + min da.depth db.depth < cLine → Q (.bool (g da db)) s →
      wpAny (model X.prog X.w) X.A (compareOp op a b) Q X.xe s)
    {pins : List (Addr × Obj)} {s : Shared} {σ : St} {H Hf : Hp} {x y : V} {v u : Value} {Q : VK} {d1 d2 : D} (I : Inv X pins σ H s) (rx : RelV x v) (ry : RelV y u) (e : Same Hf H) (b1 : BRp X.K Hf H d1 x) (b2 : BRp X.K Hf H d2 y)
    (ho : ltOk d1 d2 = true) (q : Q (.bl (g d1 d2)) H) : wpAny (model X.prog X.w) X.A (compareOp op v u) (EP X pins σ Q) X.xe s := by
  obtain ⟨h1, h2, h3, h4, h5⟩ := ltOk_inv ho
  obtain ⟨as, r1⟩ := reads_b I e b1 rx h2
  obtain ⟨bs, r2⟩ := reads_b I e b2 ry h3
  exact rule r1 r2 h1 h5 (by have := Nat.min_le_left d1.depth d2.depth; omega) ⟨.bl _, H, I, rfl, q⟩
theorem op_ltD (hu : X.A.units + 64 < cLine) : OpR X (compareOp .Lt) (rD2 X.K dLtB) := by
  intro pins s σ H x y v u Q I rx ry h; obtain ⟨Hf, d1, d2, k, e, b1, b2, ek, q⟩ := h
  unfold dLtB at ek
  split at ek
  · cases ek
    obtain rfl := brp_int b1
    obtain rfl := brp_int b2
    obtain ⟨t, rfl⟩ := rx
    obtain ⟨t', rfl⟩ := ry
    exact PyProof.Rows.lt_int ⟨.bl _, H, I, rfl, q⟩
  · split at ek
    · cases ek
      exact cmp_gen hu (fun a b c d f g => PySem.W.lt_data a b c d f g) I rx ry e b1 b2 (by assumption) q
    · cases ek
theorem op_gtD (hu : X.A.units + 64 < cLine) : OpR X (compareOp .Gt) (rD2 X.K dGtB) := by
  intro pins s σ H x y v u Q I rx ry h; obtain ⟨Hf, d1, d2, k, e, b1, b2, ek, q⟩ := h
  unfold dGtB at ek
  split at ek
  · cases ek
    obtain rfl := brp_int b1
    obtain rfl := brp_int b2
    obtain ⟨t, rfl⟩ := rx
    obtain ⟨t', rfl⟩ := ry
    exact PyProof.Rows.gt_int ⟨.bl _, H, I, rfl, q⟩
  · split at ek
    · cases ek
      exact cmp_gen (g := fun a b => PySem.W.dataLt b a) hu (fun a b c d f g => PySem.W.gt_data a b c d f g) I rx ry e b1 b2 (by assumption) q
    · cases ek
theorem op_leD (hu : X.A.units + 64 < cLine) : OpR X (compareOp .LtE) (rD2 X.K dLeB) := by
  intro pins s σ H x y v u Q I rx ry h; obtain ⟨Hf, d1, d2, k, e, b1, b2, ek, q⟩ := h
  unfold dLeB at ek
  split at ek
  · cases ek
    obtain rfl := brp_int b1
    obtain rfl := brp_int b2
    obtain ⟨t, rfl⟩ := rx
    obtain ⟨t', rfl⟩ := ry
    exact PyProof.Rows.le_int ⟨.bl _, H, I, rfl, q⟩
  · split at ek
    · cases ek
      exact cmp_gen (g := fun a b => !PySem.W.dataLt b a) hu (fun a b c d f g => PySem.W.le_data a b c d f g) I rx ry e b1 b2 (by assumption) q
    · cases ek
theorem op_geD (hu : X.A.units + 64 < cLine) : OpR X (compareOp .GtE) (rD2 X.K dGeB) := by
  intro pins s σ H x y v u Q I rx ry h; obtain ⟨Hf, d1, d2, k, e, b1, b2, ek, q⟩ := h
  unfold dGeB at ek
  split at ek
  · cases ek
    obtain rfl := brp_int b1
    obtain rfl := brp_int b2
    obtain ⟨t, rfl⟩ := rx
    obtain ⟨t', rfl⟩ := ry
    exact PyProof.Rows.ge_int ⟨.bl _, H, I, rfl, q⟩
  · split at ek
    · cases ek
      exact cmp_gen (g := fun a b => !PySem.W.dataLt a b) hu (fun a b c d f g => PySem.W.ge_data a b c d f g) I rx ry e b1 b2 (by assumption) q
    · cases ek
/-! ### in, not in: over lists and tuples -/
def dInB (x c : D) : Option Bool := match c with
  | .list xs => if okD x && PyData.plainAll xs then some (xs.any fun y => PyData.eqv y x) else none
  | .tuple xs => if okD x && PyData.plainAll xs then some (xs.any fun y => PyData.eqv y x) else none
  | _ => none
end
end Pu
/-! Pu4: more operations on data: in, arithmetic, joins, places, slices. -/
namespace Pu
open PySem PySem.Spec L2
mutual
theorem plain_hd : ∀ d : D, d.plain = true → d.hasDict = false
  | .none, _ => by simp only [PyData.hasDict]
  | .bool _, _ => by simp only [PyData.hasDict]
  | .int _, _ => by simp only [PyData.hasDict]
  | .str _, _ => by simp only [PyData.hasDict]
  | .list xs, h => by
    simp only [PyData.hasDict]
    exact plainAll_hd xs (by simpa only [PyData.plain] using h)
  | .tuple xs, h => by
    simp only [PyData.hasDict]
    exact plainAll_hd xs (by simpa only [PyData.plain] using h)
  | .dict _, h => by simp [PyData.plain] at h
theorem plainAll_hd : ∀ xs : List D, PyData.plainAll xs = true → PyData.hasDictAll xs = false
  | [], _ => by simp only [PyData.hasDictAll]
  | x :: xs, h => by
    have h' : x.plain = true ∧ PyData.plainAll xs = true := (by simpa [PyData.plainAll] using h)
    simp only [PyData.hasDictAll, plain_hd x h'.1, plainAll_hd xs h'.2, Bool.or_self]
end
section
variable {X : Cx}
/-! ### in, not in -/
theorem brp_depth {K : PySem.W.Frag} {Hf H : Hp} {d : D} {v : V} : True := trivial
theorem op_inD (hu : X.A.units + 64 < cLine) : OpR X (compareOp .In) (rD2 X.K dInB) := by
  intro pins s σ H x y v u Q I rx ry h; obtain ⟨Hf, d1, d2, k, e, b1, b2, ek, q⟩ := h
  unfold dInB at ek
  cases d2 with
  | list xs =>
    simp only at ek
    split at ek
    · rename_i ho
      cases ek
      simp only [okD, Bool.and_eq_true, decide_eq_true_eq] at ho
      obtain ⟨as, r1⟩ := reads_b I e b1 rx ho.1.1
      obtain ⟨bs, r2⟩ := reads_b I e b2 ry (by simpa only [PyData.plain] using ho.2)
      have h1 := ho.1.2
      exact PySem.SeqAt.in_list_data r2 r1 ho.2 ho.1.1 (by have := Nat.min_le_right (PyData.depthAll xs) d1.depth; omega) ⟨.bl _, H, I, rfl, q⟩
    · cases ek
  | tuple xs =>
    simp only at ek
    split at ek
    · rename_i ho
      cases ek
      simp only [okD, Bool.and_eq_true, decide_eq_true_eq] at ho
      obtain ⟨as, r1⟩ := reads_b I e b1 rx ho.1.1
      obtain ⟨bs, r2⟩ := reads_b I e b2 ry (by simpa only [PyData.plain] using ho.2)
      have h1 := ho.1.2
      exact PySem.SeqAt.in_tuple_data r2 r1 ho.2 ho.1.1 (by have := Nat.min_le_right (PyData.depthAll xs) d1.depth; omega) ⟨.bl _, H, I, rfl, q⟩
    · cases ek
  | _ => cases ek
theorem op_notInD (hu : X.A.units + 64 < cLine) : OpR X (compareOp .NotIn) (rD2 X.K fun a b => (dInB a b).map (!·)) := by
  intro pins s σ H x y v u Q I rx ry h; obtain ⟨Hf, d1, d2, k', e, b1, b2, ek', q⟩ := h
  obtain ⟨k, ek, rfl⟩ := Option.map_eq_some_iff.mp ek'
  unfold dInB at ek
  cases d2 with
  | list xs =>
    simp only at ek
    split at ek
    · rename_i ho
      cases ek
      simp only [okD, Bool.and_eq_true, decide_eq_true_eq] at ho
      obtain ⟨as, r1⟩ := reads_b I e b1 rx ho.1.1
      obtain ⟨bs, r2⟩ := reads_b I e b2 ry (by simpa only [PyData.plain] using ho.2)
      have h1 := ho.1.2
      exact PySem.SeqAt.notIn_list_data r2 r1 ho.2 ho.1.1 (by have := Nat.min_le_right (PyData.depthAll xs) d1.depth; omega) ⟨.bl _, H, I, rfl, q⟩
    · cases ek
  | tuple xs =>
    simp only at ek
    split at ek
    · rename_i ho
      cases ek
      simp only [okD, Bool.and_eq_true, decide_eq_true_eq] at ho
      obtain ⟨as, r1⟩ := reads_b I e b1 rx ho.1.1
      obtain ⟨bs, r2⟩ := reads_b I e b2 ry (by simpa only [PyData.plain] using ho.2)
      have h1 := ho.1.2
      exact PySem.SeqAt.notIn_tuple_data r2 r1 ho.2 ho.1.1 (by have := Nat.min_le_right (PyData.depthAll xs) d1.depth; omega) ⟨.bl _, H, I, rfl, q⟩
    · cases ek
  | _ => cases ek
/-! ### arithmetic, joins -/
/-- list + list, wherever they stand -/
def rCatX (K : PySem.W.Frag) : R2 := fun x y H Q => ∃ l b xs zs, x = .ref l ∧ y = .ref b ∧ SqL K H l xs ∧ SqL K H b zs ∧ xs.length + zs.length ≤ sizeLine ∧ ∀ p, H p = none → Q (.ref p) (upd H p (.lst (xs ++ zs)))
theorem op_catX {X : Cx} : OpR X (binaryOp .Add) (rCatX X.K) := by
  intro pins s σ H x y v u Q I rx ry h; obtain ⟨l, b, xs, zs, rfl, rfl, hx, hy, hz, q⟩ := h
  cases rx
  cases ry
  obtain ⟨i1, r1, p1, _⟩ := I.list hx
  obtain ⟨i2, r2, p2, _⟩ := I.list hy
  obtain ⟨⟨c1, d1, t1, s1⟩, g1, e1, n1, w1⟩ := p1.isList
  obtain ⟨⟨c2, d2, t2, s2⟩, g2, e2, n2, w2⟩ := p2.isList
  simp only at e1 w1 e2 w2
  subst e1 w1 e2 w2
  have l1 := r1.length
  have l2 := r2.length
  refine concat_meets ⟨_, g1, rfl⟩ ⟨_, g2, rfl⟩ noFill_list_add seq_list_add PySem.F.slot_list_add PySem.F.entry_list_add (PySem.F.args_list_add_2 _ _) (PyProof.Rows.list_addW l b i1.toArray i2.toArray n1 n2 d1 d2 s1 s2 (by simp only [List.size_toArray]; omega)) ⟨g1, g2, ?_⟩
  have ea : i1.toArray ++ i2.toArray = (i1 ++ i2).toArray := by simp
  rw [ea]
  exact ⟨.ref s.heap.objs.size, _, I.laid (t' := s.toks) (o := .lst (xs ++ zs)) (fun b u e => Heap.get?_push_of_some _ e) (Nat.le_refl _) ⟨by rw [List.length_append]; exact hz, i1 ++ i2, 0, r1.append r2, Heap.get?_push_size _ rfl⟩, rfl, q _ (I.hok.fresh (Nat.le_refl _))⟩
def dAdd (a b : D) : Option Rs := match a, b with
  | .int i, .int j => some (.dat (.int (i + j)))
  | .str i, .str j => if i.length + j.length ≤ sizeLine then some (.dat (.str (i ++ j))) else none
  | .tuple xs, .tuple ys => if xs.length + ys.length ≤ sizeLine then some (.dat (.tuple (xs ++ ys))) else none
  | .list xs, .list ys => if xs.length + ys.length ≤ sizeLine then some (.fresh (xs ++ ys)) else none
  | _, _ => none
abbrev rAddD (K : PySem.W.Frag) : R2 := fun x y H Q => rI0 (fun i j => .int (i + j)) x y H Q ∨ (∃ i j, x = .str i ∧ y = .str j ∧ i.length + j.length ≤ sizeLine ∧ Q (.str (i ++ j)) H) ∨ rCatA K x y H Q ∨ rCatX K x y H Q
theorem op_addD : OpR X (binaryOp .Add) (rAddD X.K) := OpR.or op_add (OpR.or op_add_str (OpR.or op_catA op_catX))
theorem op2_add {K : PySem.W.Frag} : Op2 K (rAddD K) dAdd := by
  intro Hf H d1 d2 x y res Q e b1 b2 er q
  unfold dAdd at er
  split at er
  · cases er
    obtain rfl := brp_int b1
    obtain rfl := brp_int b2
    exact .inl ⟨_, _, rfl, rfl, q _ _ (.old (by simp only [Rp]))⟩
  · split at er
    · cases er
      obtain rfl := brp_str b1
      obtain rfl := brp_str b2
      exact .inr (.inl ⟨_, _, rfl, rfl, by assumption, q _ _ (.old (by simp only [Rp]))⟩)
    · cases er
  · split at er
    · rename_i xs ys hl
      cases er
      obtain ⟨a, vs, rfl, h1, h2⟩ := brp_tup e b1
      obtain ⟨b, ws, rfl, h3, h4⟩ := brp_tup e b2
      have l1 := h2.length
      have l2 := h4.length
      refine .inr (.inr (.inl ⟨a, b, vs, ws, rfl, rfl, h1, h3, by rw [l1, l2]; exact hl, fun z => ?_, fun _ z => ?_, fun _ _ p hp => q _ _ (.tup hp (h2.append h4))⟩))
      · subst z
        have z2 : xs = [] := List.length_eq_zero_iff.mp l1.symm
        subst z2
        refine q _ _ (.old ?_)
        rcases b2 with b2 | ⟨_, _, _, _, _, z, _⟩
        · exact b2
        · cases z
      · subst z
        have z2 : ys = [] := List.length_eq_zero_iff.mp l2.symm
        subst z2
        rw [List.append_nil] at q
        refine q _ _ (.old ?_)
        rcases b1 with b1 | ⟨_, _, _, _, _, z, _⟩
        · exact b1
        · cases z
    · cases er
  · split at er
    · rename_i xs ys hl
      cases er
      obtain ⟨a, vs, rfl, h1, h2⟩ := brp_list e b1
      obtain ⟨b, ws, rfl, h3, h4⟩ := brp_list e b2
      refine .inr (.inr (.inr ⟨a, b, vs, ws, rfl, rfl, h1, h3, by rw [h2.length, h4.length]; exact hl, fun p hp => q _ _ (.lst hp (h2.append h4))⟩))
    · cases er
  · cases er
def dSub (a b : D) : Option Rs := match a, b with
  | .int i, .int j => some (.dat (.int (i - j)))
  | _, _ => none
theorem op2_sub {K : PySem.W.Frag} : Op2 K (rI0 fun i j => .int (i - j)) dSub := by
  intro Hf H d1 d2 x y res Q e b1 b2 er q
  unfold dSub at er
  split at er
  · cases er
    obtain rfl := brp_int b1
    obtain rfl := brp_int b2
    exact ⟨_, _, rfl, rfl, q _ _ (.old (by simp only [Rp]))⟩
  · cases er
/-- one factor below 2 ^ 64 -/
def mulOk (i j : Int) : Bool := decide (-(2 ^ 64) < i ∧ i < 2 ^ 64) || decide (-(2 ^ 64) < j ∧ j < 2 ^ 64)
def dMul (a b : D) : Option Rs := match a, b with
  | .int i, .int j => if mulOk i j then some (.dat (.int (i * j))) else none
  | _, _ => none
theorem op2_mul {K : PySem.W.Frag} : Op2 K (rI CMul fun i j => .int (i * j)) dMul := by
  intro Hf H d1 d2 x y res Q e b1 b2 er q
  unfold dMul at er
  split at er
  · split at er
    · rename_i hm
      cases er
      obtain rfl := brp_int b1
      obtain rfl := brp_int b2
      simp only [mulOk, Bool.or_eq_true, decide_eq_true_eq] at hm
      exact ⟨_, _, rfl, rfl, hm, q _ _ (.old (by simp only [Rp]))⟩
    · cases er
  · cases er
def dFdiv (a b : D) : Option Rs := match a, b with
  | .int i, .int j => if 0 < j ∧ j < 1073741824 then some (.dat (.int (i / j))) else none
  | _, _ => none
theorem op2_fdiv {K : PySem.W.Frag} : Op2 K (rI CDiv fun i j => .int (i / j)) dFdiv := by
  intro Hf H d1 d2 x y res Q e b1 b2 er q
  unfold dFdiv at er
  split at er
  · split at er
    · rename_i hm
      cases er
      obtain rfl := brp_int b1
      obtain rfl := brp_int b2
      exact ⟨_, _, rfl, rfl, hm, q _ _ (.old (by simp only [Rp]))⟩
    · cases er
  · cases er
def dMod (a b : D) : Option Rs := match a, b with
  | .int i, .int j => if 0 < j then some (.dat (.int (i % j))) else none
  | _, _ => none
theorem op2_mod {K : PySem.W.Frag} : Op2 K (rI (fun _ j => 0 < j) fun i j => .int (i % j)) dMod := by
  intro Hf H d1 d2 x y res Q e b1 b2 er q
  unfold dMod at er
  split at er
  · split at er
    · rename_i hm
      cases er
      obtain rfl := brp_int b1
      obtain rfl := brp_int b2
      exact ⟨_, _, rfl, rfl, hm, q _ _ (.old (by simp only [Rp]))⟩
    · cases er
  · cases er
def dPow (a b : D) : Option Rs := match a, b with
  | .int i, .int j => if 0 ≤ j ∧ j ≤ 1000000 ∧ i.natAbs < 2 ^ 64 then some (.dat (.int (i ^ j.toNat))) else none
  | _, _ => none
theorem op2_pow {K : PySem.W.Frag} : Op2 K (rI CPow fun i j => .int (i ^ j.toNat)) dPow := by
  intro Hf H d1 d2 x y res Q e b1 b2 er q
  unfold dPow at er
  split at er
  · split at er
    · rename_i hm
      cases er
      obtain rfl := brp_int b1
      obtain rfl := brp_int b2
      exact ⟨_, _, rfl, rfl, hm, q _ _ (.old (by simp only [Rp]))⟩
    · cases er
  · cases er
def dNeg (a : D) : Option Rs := match a with
  | .int i => some (.dat (.int (-i)))
  | _ => none
theorem op1_neg {K : PySem.W.Frag} : Op1 K (rU fun i => .int (-i)) dNeg := by
  intro Hf H d x res Q e b er q
  unfold dNeg at er
  split at er
  · cases er
    obtain rfl := brp_int b
    exact ⟨_, rfl, q _ _ (.old (by simp only [Rp]))⟩
  · cases er
/-! ### places -/
def ixD (xs : List D) (i : Int) : Option D := (ixN xs.length i).bind fun j => xs[j]?
def dIx (a b : D) : Option Rs := match a, b with
  | .list xs, .int i => (ixD xs i).map .dat
  | .tuple xs, .int i => (ixD xs i).map .dat
  | .str z, .int i => if z.length ≤ sizeLine then (atI z.cps.toList i).map fun c => .dat (.str ⟨#[c]⟩) else none
  | _, _ => none
theorem ixD_get {K : PySem.W.Frag} {H : Hp} {ds : List D} {vs : List V} {i : Int} {d : D} (h : RpL K H ds vs) (e : ixD ds i = some d) : ∃ v, atI vs i = some v ∧ Rp K H d v := by
  unfold ixD at e
  obtain ⟨j, e1, e2⟩ := Option.bind_eq_some_iff.mp e
  obtain ⟨v, e3, r⟩ := h.get e2
  refine ⟨v, ?_, r⟩
  unfold atI
  rw [h.length, e1]
  exact e3
theorem op2_ix {K : PySem.W.Frag} : Op2 K (rIx K) dIx := by
  intro Hf H d1 d2 x y res Q e b1 b2 er q
  unfold dIx at er
  split at er
  · obtain ⟨d, e1, rfl⟩ := Option.map_eq_some_iff.mp er
    obtain ⟨a, vs, rfl, h1, h2⟩ := brp_list e b1
    obtain rfl := brp_int b2
    obtain ⟨v, e3, r⟩ := ixD_get h2 e1
    exact .inl ⟨a, vs, _, v, rfl, rfl, h1, e3, q _ _ (.old r)⟩
  · obtain ⟨d, e1, rfl⟩ := Option.map_eq_some_iff.mp er
    obtain ⟨a, vs, rfl, h1, h2⟩ := brp_tup e b1
    obtain rfl := brp_int b2
    obtain ⟨v, e3, r⟩ := ixD_get h2 e1
    exact .inr (.inl ⟨a, vs, _, v, rfl, rfl, h1, e3, q _ _ (.old r)⟩)
  · split at er
    · obtain ⟨c, e1, rfl⟩ := Option.map_eq_some_iff.mp er
      obtain rfl := brp_str b1
      obtain rfl := brp_int b2
      exact .inr (.inr ⟨_, _, c, rfl, rfl, by assumption, e1, q _ _ (.old (by simp only [Rp]))⟩)
    · cases er
  · cases er
/-! ### slices -/
def cutD (xs : List D) (lo hi : Option Int) : List D := (xs.drop (HT.sIx xs.length 0 lo)).take (HT.sIx xs.length xs.length hi - HT.sIx xs.length 0 lo)
/-- a slice's part -/
def partD : Option D → Option (Option Int)
  | none => some none
  | some (.int i) => some (some i)
  | _ => none
theorem cut_rp {K : PySem.W.Frag} {H : Hp} {ds : List D} {vs : List V} (h : RpL K H ds vs) (lo hi : Option Int) : RpL K H (cutD ds lo hi) (cutV vs lo hi) := by
  unfold cutD cutV
  rw [h.length]
  exact (h.drop _).take _
def dSl (a : D) (lo hi : Option Int) : Option Rs := match a with
  | .list xs => some (.fresh (cutD xs lo hi))
  | .tuple xs => some (.dat (.tuple (cutD xs lo hi)))
  | _ => none
abbrev rSlD (K : PySem.W.Frag) : V → Option Int → Option Int → Hp → VK → Prop := fun x lo hi H Q => rSlL K x lo hi H Q ∨ rSlA K x lo hi H Q
theorem sl_D : SlR X (rSlD X.K) := SlR.or sl_list sl_tupA
theorem sl_of {K : PySem.W.Frag} {Hf H : Hp} {d : D} {x : V} {lo hi : Option Int} {res : Rs} {Q : VK} (e : Same Hf H) (b : BRp K Hf H d x) (er : dSl d lo hi = some res) (q : ∀ v H', Got K Hf H res v H' → Q v H') : rSlD K x lo hi H Q := by
  unfold dSl at er
  split at er
  · cases er
    obtain ⟨a, vs, rfl, h1, h2⟩ := brp_list e b
    exact .inl ⟨a, vs, rfl, h1, fun p hp => q _ _ (.lst hp (cut_rp h2 lo hi))⟩
  · rename_i xs
    cases er
    obtain ⟨a, vs, rfl, h1, h2⟩ := brp_tup e b
    refine .inr ⟨a, vs, rfl, h1, fun hw => ?_, fun _ p hp => q _ _ (.tup hp (cut_rp h2 lo hi))⟩
    have ec : cutD xs lo hi = xs := by
      unfold cutD
      rw [← h2.length, hw.1, hw.2, Nat.sub_zero, List.drop_zero, h2.length, List.take_length]
    rw [ec] at q
    refine q _ _ (.old ?_)
    rcases b with b | ⟨_, _, _, _, _, z, _⟩
    · exact b
    · cases z
  · cases er
/-- a slice's bound: none, or an expression -/
def mPart : Option (M Rv) → M (Option Int)
  | none => M.pure none
  | some m => M.bind m fun r => match r with
    | .dat (.int i) => M.pure (some i)
    | _ => M.stuck
def mSl (m : M Rv) (lo hi : Option (M Rv)) : M Rv := M.bind m fun r => M.bind (mPart lo) fun l => M.bind (mPart hi) fun h => M.bind (peek (settle r)) fun d => M.bind (M.lift (dSl d l h)) fun x => M.pure x.rv
/-- the reading of a part -/
def tMO (K : PySem.W.Frag) (mg : Str → Option Value) (E : WX) (m : M (Option Int)) : TO := fun σ H Q => ∃ ba O Hf s, Rep K ba O Hf H σ s ∧
  Fits (m s) (fun b s' => ∀ H' Hf', Rep K ba O Hf' H' σ s' → Same Hf Hf' → Q b H') (ExW K mg E ba O Hf σ)
abbrev EO (X : Cx) (E : WX) (e : Option Expr) (m : Option (M Rv)) : Prop := PO X e (tMO X.K X.mg E (mPart m))
theorem PO.conv {e : Option Expr} {t t' : TO} (h : PO X e t) (c : ∀ σ H Q, t' σ H Q → t σ H Q) : PO X e t' := ⟨fun pins s σ H Q I q => h.run pins s σ H Q I (c σ H Q q)⟩
variable {E : WX}
theorem eo_none : EO X E none none := PO.conv po_none fun σ H Q q => by
  obtain ⟨ba, O, Hf, s, R, F⟩ := q
  exact F H Hf R (Same.refl _)
theorem eo_some {e : Expr} {m : M Rv} (h : EV X E e m) : EO X E (some e) (some m) := PO.conv (po_some h) fun σ H Q q => by
  obtain ⟨ba, O, Hf, s, R0, F⟩ := q
  refine ⟨ba, O, Hf, s, R0, F.bind.imp (fun r s' F' v H1 Hf1 R1 e1 ok1 => ?_) fun x s' q => q⟩
  cases r with
  | dat d =>
    cases d with
    | int i => exact ⟨i, rp_int (K := X.K) (Hf := Hf1) ok1, F' H1 Hf1 R1 e1⟩
    | _ => exact F'.elim
  | _ => exact F'.elim
theorem ev_slice {a : Expr} {lo hi : Option Expr} {m : M Rv} {ml mh : Option (M Rv)} {p2 pos : Pos} (ha : EV X E a m) (hl : EO X E lo ml) (hh : EO X E hi mh) : EV X E (.Subscript a (.Slice lo hi none p2) pos) (mSl m ml mh) :=
  PE.conv (pe_slice sl_D ha hl hh) fun σ H Q q => tM.bind q fun ba O Hf s r v H1 R1 ok1 F => by
    obtain ⟨Hf1, e1, R1', lt⟩ := R1.settle ok1
    refine ⟨ba, O, Hf1, s, R1', F.bind.imp (fun l s2 F2 H2 Hf2 R2 e2 => ?_) fun x s' q => ExW.mono e1 q⟩
    refine ⟨ba, O, Hf2, s2, R2, F2.bind.imp (fun u s3 F3 H3 Hf3 R3 e3 => ?_) fun x s' q => ExW.mono (Same.trans e1 e2) q⟩
    obtain ⟨d, F4, b⟩ := peek_late R3 (lt.mono (Same.trans e2 e3)) F3.bind
    obtain ⟨res, er, F5⟩ := F4.bind.lift
    exact sl_of R3.reg.sub b er fun v H' g => got_end (K := X.K) R3 (fun v H' Hf' R' e' ok' => F5 v H' Hf' R' (Same.trans e1 (Same.trans e2 (Same.trans e3 e'))) ok') g
/-! ### chains of comparisons -/
def mChain (f g : D → D → Option Bool) (m1 m2 m3 : M Rv) : M Rv := M.bind m1 fun r1 => M.bind m2 fun r2 => M.bind (peek (settle r1)) fun d1 => M.bind (peek (settle r2)) fun d2 => M.bind (M.lift (f d1 d2)) fun k =>
  if k then M.bind m3 fun r3 => M.bind (peek (settle r2)) fun d2 => M.bind (peek r3) fun d3 => M.bind (M.lift (g d2 d3)) fun k => M.pure (.dat (.bool k)) else M.pure (.dat (.bool false))
theorem chain_conv {f g : D → D → Option Bool} {m1 m2 m3 : M Rv} {σ : L2.St} {H : Hp} {Q : VK} (q : tM X.K X.mg E (mChain f g m1 m2 m3) σ H Q) :
    tChain (rD2 X.K f) (rD2 X.K g) (tM X.K X.mg E m1) (tM X.K X.mg E m2) (tM X.K X.mg E m3) σ H Q := by
  refine tM.bind q fun ba O Hf s r1 v1 H1 R1 ok1 F => ?_
  obtain ⟨Hf1, e1, R1', lt⟩ := R1.settle ok1
  refine ⟨ba, O, Hf1, s, R1', F.bind.imp (fun r2 s2 F2 v2 H2 Hf2 R2 e2 ok2 => ?_) fun x s' q => ExW.mono e1 q⟩
  obtain ⟨d1, F3, b1⟩ := peek_late R2 (lt.mono e2) F2.bind
  obtain ⟨Hf3, e3, R3, lt2⟩ := R2.settle ok2
  obtain ⟨d2, F4, b2⟩ := peek_late R3 lt2 F3.bind
  obtain ⟨k, ek, F5⟩ := F4.bind.lift
  have b1' : BRp X.K Hf3 H2 d1 v1 := by
    rcases b1 with b | ⟨a, vs, ds, z1, z2, z3, z4⟩
    · exact .inl (Rp.mono e3 _ _ b)
    · exact .inr ⟨a, vs, ds, z1, z2, z3, RpL.mono e3 _ _ z4⟩
  refine ⟨Hf3, d1, d2, k, R3.reg.sub, b1', b2, ek, k, rfl, ?_⟩
  cases k with
  | false =>
    refine iteF ?_
    exact F5 _ H2 Hf3 R3 (Same.trans e1 (Same.trans e2 e3)) (bl_rp (K := X.K) (Hf := Hf3))
  | true =>
    refine iteT ⟨ba, O, Hf3, s2, R3, F5.bind.imp (fun r3 s4 F6 v3 H4 Hf4 R4 e4 ok4 => ?_) fun x s' q => ExW.mono (Same.trans e1 (Same.trans e2 e3)) q⟩
    obtain ⟨d2', F7, b3⟩ := peek_late R4 (lt2.mono e4) F6.bind
    obtain ⟨d3, F8, b4⟩ := peek_now R4 ok4 F7.bind
    obtain ⟨k2, ek2, F9⟩ := F8.bind.lift
    exact ⟨Hf4, d2', d3, k2, R4.reg.sub, b3, b4, ek2, F9 _ H4 Hf4 R4 (Same.trans e1 (Same.trans e2 (Same.trans e3 e4))) (bl_rp (K := X.K) (Hf := Hf4))⟩
theorem ev_chain {op op' : CmpOp} {a b c : Expr} {f g : D → D → Option Bool} {m1 m2 m3 : M Rv} {pos : Pos} (ho : OpR X (compareOp op) (rD2 X.K f)) (ho' : OpR X (compareOp op') (rD2 X.K g)) (ha : EV X E a m1) (hb : EV X E b m2) (hc : EV X E c m3)
    (hm : lastMarks [op, op'] [b, c] = false := by with_unfolding_all rfl) : EV X E (.Compare a [op, op'] [b, c] pos) (mChain f g m1 m2 m3) :=
  PE.conv (pe_chain ho ho' ha hb hc hm) fun σ H Q q => chain_conv q
theorem et_chain {op op' : CmpOp} {a b c : Expr} {f g : D → D → Option Bool} {m1 m2 m3 : M Rv} {pos : Pos} (ho : OpR X (compareOp op) (rD2 X.K f)) (ho' : OpR X (compareOp op') (rD2 X.K g)) (ha : EV X E a m1) (hb : EV X E b m2) (hc : EV X E c m3)
    (hm : lastMarks [op, op'] [b, c] = false := by with_unfolding_all rfl) : ET X E (.Compare a [op, op'] [b, c] pos) (mIs (mChain f g m1 m2 m3)) :=
  PT.conv (pt_chain ho ho' ha hb hc hm) fun σ H Q q => is_conv (fun _ q => chain_conv q) q
end
end Pu
/-! Pu5: defs where no text of an object is being made around; argument rows; displays; calls of built-ins. -/
namespace Pu
open PySem PySem.Spec PyProof.Rows L2
/-- as FnOk, where nothing stands in the middle of a repr -/
structure FnG (P : Program) (w : World) (K : PySem.W.Frag) (mg : Str → Option Value) (base : Heap) (CX : CXT) (k : Nat) (f : Addr) (fd : FuncData) (ps : List Str) (sp : Sp) : Prop where
  len : ∀ us H Q E, sp us H Q E → us.length = ps.length
  go : ∀ (A : Around) (outer : List Env) (s : Shared) (H : Hp) (args : Args) (us : List Value) (vs : List V) (Q : VK) (E : XK), A.guards = some [] → Room k A → Env0 P w K mg base A outer s H → BindsTo s fd args (ps.zip us) →
    Vals vs us → sp vs H Q E → codeAny (model P w) A (.call (.ref f) args) (CR CX outer P w H s Q E) s
section
variable {P : Program} {w : World} {K : PySem.W.Frag} {mg : Str → Option Value} {base : Heap} {CX : CXT} {j k : Nat} {f : Addr} {fd : FuncData} {ps : List Str} {sp : Sp}
theorem FnG.of (F : FnOk P w K mg base CX k f fd ps sp) : FnG P w K mg base CX k f fd ps sp := ⟨F.len, fun A outer s H args us vs Q E _ => F.run A outer s H args us vs Q E⟩
theorem FnG.mono (F : FnG P w K mg base CX j f fd ps sp) (h : j ≤ k) : FnG P w K mg base CX k f fd ps sp :=
  ⟨F.len, fun A outer s H args us vs Q E hg hr => F.go A outer s H args us vs Q E hg (hr.mono h)⟩
theorem FnG.imp {sp' : Sp} (F : FnG P w K mg base CX k f fd ps sp) (h : ∀ vs H Q E, sp' vs H Q E → sp vs H Q E) : FnG P w K mg base CX k f fd ps sp' :=
  ⟨fun vs H Q E q => F.len vs H Q E (h _ _ _ _ q), fun A outer s H args us vs Q E hg hr he hb hv hs => F.go A outer s H args us vs Q E hg hr he hb hv (h _ _ _ _ hs)⟩
end
/-- a def by its body, as fn_of, the context's guards told -/
theorem fnG_of {P : Program} {w : World} {K : PySem.W.Frag} {mg : Str → Option Value} {base : Heap} {CX : CXT} {k : Nat} {f : Addr} {x qual : Str} {st : Stmt} {fd : FuncData} {N ps : List Str} {sp : Sp}
    (F : Fun K x qual st f fd) (S : FnScope N ps (defScope st)) (hlen : ∀ vs H Q E, sp vs H Q E → vs.length = ps.length)
    (body : ∀ (cdv : Value) (A : Around) (outer : List Env) (s : Shared) (H : Hp) (vs : List V) (Q : VK) (E : XK), A.guards = some [] → Room k (A.deeper (envOfC qual (defScope st) s.heap.objs.size f cdv)) → sp vs H Q E →
      ∃ t, PSs (cxOf CX P w K mg base N qual (defScope st) f cdv A outer s H E) (defBody st) t ∧ t { nx := fun _ H' => Q .non H', rt := Q } (start N vs) H) : FnG P w K mg base CX (k + 1) f fd ps sp := by
  obtain ⟨oc, od, kV, doc, pm, anV, cdv, ct, osl, rfl, lk, hcd⟩ := F.ex
  constructor
  · exact hlen
  · intro A outer s H args us vs Q E hgd room e0 hb hv hsp
    have e1 := hlen _ _ _ _ hsp
    have hin : K.In s.heap := e0.mod.kin.keeps fun b o z => (e0.bs b o z).1
    have nl : s.heap.NoLimit := e0.mod.nolimit.keeps fun b o z => (e0.bs b o z).1
    have kinds : ∀ y ∈ ps.zip us, (defScope st).names.lookup y.1 = some .local ∨ ((defScope st).names.lookup y.1 = some .cell ∧ ((cellsFrom (s.heap.objs.size + 1) (defScope st).names []).lookup y.1).isSome = true) := by
      rintro ⟨n, v⟩ hy
      cases S.par n (List.of_mem_zip hy).1 with
      | inl q => exact Or.inl q
      | inr q => exact Or.inr ⟨q, PySem.W.cellsFrom_some _ _ _ (Or.inl q)⟩
    refine codeAny_call_function room.depth (hin _ _ lk) rfl S.co S.gen rfl (PySem.W.codeRec_of hin hcd) (hb _ _ _ _ ?_)
    refine wpAny_newFunctionEnv_cells S.kind kinds fun env ee s1 ic => ?_
    subst ee
    refine ⟨nl.keeps ic.toInCall.keep, codeAny_func ?_⟩
    obtain ⟨t, pt, q⟩ := body cdv A outer s H vs Q E hgd (room.deeper _) hsp
    have I0 : Inv (cxOf CX P w K mg base N qual (defScope st) f cdv A outer s H E) [] (start N vs) H s1 := inv_start S room.hd e0 e1 hv ic
    refine wpAny_mono (pt.run [] s1 (start N vs) H _ I0 q) (fun fl s' hs => ?_) fun e s' z => z
    have close : ∀ {σ' : L2.St} {H' : Hp} {v : V} {u : Value}, Inv (cxOf CX P w K mg base N qual (defScope st) f cdv A outer s H E) [] σ' H' s' → RelV v u → Q v H' → CE outer P w H s Q u s' := by
      intro σ' H' v u J r z
      exact ⟨v, H', J.os, J.bare, J.base, J.hok, r, z⟩
    cases fl with
    | next =>
      obtain ⟨σ', H', J, z⟩ := hs
      exact close (v := V.non) (u := Value.none) J rfl z
    | ret u =>
      obtain ⟨v, σ', H', J, r, z⟩ := hs
      exact close J r z
    | cont => exact (hs.choose_spec.choose_spec.2).elim
    | brk => exact (hs.choose_spec.choose_spec.2).elim
end Pu
/-! Pu6: argument rows, displays, calls of defs. -/
namespace Pu
open PySem PySem.Spec PyProof.Rows L2
/-- what is handed to a def -/
inductive Ar where
  | dat (d : D) | bag
def ArOk (K : PySem.W.Frag) (ba : Option Addr) (Hf : Hp) : Ar → V → Prop
  | .dat d, v => Rp K Hf d v
  | .bag, v => ∃ a, ba = some a ∧ v = .ref a
def ArL (K : PySem.W.Frag) (ba : Option Addr) (Hf : Hp) : List Ar → List V → Prop
  | [], vs => vs = []
  | a :: as, vs => ∃ v r, vs = v :: r ∧ ArOk K ba Hf a v ∧ ArL K ba Hf as r
section
variable {K : PySem.W.Frag} {ba : Option Addr} {Hf Hf' : Hp}
theorem ArOk.mono (e : Same Hf Hf') {a : Ar} {v : V} (h : ArOk K ba Hf a v) : ArOk K ba Hf' a v := by
  cases a with
  | dat d => exact Rp.mono e _ _ h
  | bag => exact h
theorem ArL.mono (e : Same Hf Hf') : ∀ {as : List Ar} {vs : List V}, ArL K ba Hf as vs → ArL K ba Hf' as vs
  | [], _, h => h
  | a :: as, _, ⟨v, r, h1, h2, h3⟩ => ⟨v, r, h1, ArOk.mono e h2, ArL.mono e h3⟩
theorem ArL.length : ∀ {as : List Ar} {vs : List V}, ArL K ba Hf as vs → vs.length = as.length
  | [], _, h => by
    have h' : _ = [] := h
    rw [h']; rfl
  | a :: as, _, ⟨v, r, h1, h2, h3⟩ => by rw [h1, List.length_cons, List.length_cons, ArL.length h3]
end
def datsOf : List Ar → Option (List D)
  | [] => some []
  | .dat d :: r => (datsOf r).map (d :: ·)
  | .bag :: _ => none
theorem dats_rp {K : PySem.W.Frag} {ba : Option Addr} {Hf : Hp} : ∀ {as : List Ar} {vs : List V} {ds : List D}, ArL K ba Hf as vs → datsOf as = some ds → RpL K Hf ds vs
  | [], vs, ds, h, e => by
    cases e
    have h' : vs = [] := h
    rw [h']; exact RpL.nil
  | .dat d :: as, vs, ds, ⟨v, r, h1, h2, h3⟩, e => by
    obtain ⟨es, e1, rfl⟩ := Option.map_eq_some_iff.mp e
    rw [h1]
    exact RpL.cons h2 (dats_rp h3 e1)
  | .bag :: as, _, _, _, e => by cases e
def retainA (r : Rv) : M Ar := fun s => match r with
  | .bag => some (s, .ok .bag)
  | r => (M.bind (retain r) fun d => M.pure (.dat d)) s
def mArgs : List (M Rv) → M (List Ar)
  | [] => M.pure []
  | m :: ms => M.bind m fun r => M.bind (retainA r) fun a => M.bind (mArgs ms) fun as => M.pure (a :: as)
theorem retainA_ok {K : PySem.W.Frag} {ba : Option Addr} {O Hf H : Hp} {σ : St} {s : S} {v : V} {r : Rv} {ok : Ar → S → Prop} {ex : Exn → S → Prop} (R : Rep K ba O Hf H σ s) (h : RvOk K ba O Hf H σ s r v) (f : Fits (retainA r s) ok ex) :
    ∃ d s' Hf', ok d s' ∧ Same Hf Hf' ∧ Rep K ba O Hf' H σ s' ∧ ArOk K ba Hf' d v := by
  have gen : Fits ((M.bind (retain r) fun d => M.pure (Ar.dat d)) s) ok ex → ∃ d s' Hf', ok d s' ∧ Same Hf Hf' ∧ Rep K ba O Hf' H σ s' ∧ ArOk K ba Hf' d v := fun f => by
    obtain ⟨d, s', Hf', o, e, R', p⟩ := retain_ok R h f.bind
    exact ⟨.dat d, s', Hf', o, e, R', p⟩
  cases r with
  | bag => exact ⟨.bag, s, Hf, f, Same.refl _, R, h⟩
  | _ => exact gen f
theorem mArgs_len : ∀ {ms : List (M Rv)} {s : S} {ok : List Ar → S → Prop} {ex : Exn → S → Prop}, Fits (mArgs ms s) ok ex → Fits (mArgs ms s) (fun as s' => as.length = ms.length ∧ ok as s') ex
  | [], s, ok, ex, h => ⟨rfl, h⟩
  | m :: ms, s, ok, ex, h => by
    unfold mArgs at h ⊢
    unfold M.bind at h ⊢
    cases e : m s with
    | none => simp only [e] at h; exact h
    | some q =>
      obtain ⟨s1, r⟩ := q
      cases r with
      | error x => simp only [e] at h ⊢; exact h
      | ok r =>
        simp only [e] at h ⊢
        cases e2 : retainA r s1 with
        | none => simp only [e2] at h; exact h
        | some q =>
          obtain ⟨s2, r2⟩ := q
          cases r2 with
          | error x => simp only [e2] at h ⊢; exact h
          | ok a =>
            simp only [e2] at h ⊢
            have ih := @mArgs_len ms s2 (fun as s' => ok (a :: as) s') ex
            cases e3 : mArgs ms s2 with
            | none => simp only [e3] at h; exact h
            | some q =>
              obtain ⟨s3, r3⟩ := q
              rw [e3] at ih
              cases r3 with
              | error x => simp only [e3] at h ⊢; exact h
              | ok as =>
                simp only [e3] at h ⊢
                obtain ⟨l, o⟩ := ih h
                exact ⟨by rw [List.length_cons, List.length_cons, l], o⟩
/-- the reading of an argument row -/
def tMA (K : PySem.W.Frag) (mg : Str → Option Value) (E : WX) (m : M (List Ar)) : TA := fun σ H Q => ∃ ba O Hf s, Rep K ba O Hf H σ s ∧
  Fits (m s) (fun as s' => ∀ vs H' Hf', Rep K ba O Hf' H' σ s' → Same Hf Hf' → ArL K ba Hf' as vs → Q vs H') (ExW K mg E ba O Hf σ)
abbrev EA (X : Cx) (E : WX) (es : List Expr) (ms : List (M Rv)) : Prop := PA X es (tMA X.K X.mg E (mArgs ms))
section
variable {X : Cx} {E : WX} {e : Expr} {es : List Expr} {m : M Rv} {ms : List (M Rv)} {pos : Pos}
theorem PA.conv {es : List Expr} {t t' : TA} (h : PA X es t) (c : ∀ σ H Q, t' σ H Q → t σ H Q) : PA X es t' := ⟨fun p pins s σ H Q I q => h.run p pins s σ H Q I (c σ H Q q)⟩
theorem ea_nil : EA X E [] [] := PA.conv pa_nil fun σ H Q q => by
  obtain ⟨ba, O, Hf, s, R, F⟩ := q
  exact F [] H Hf R (Same.refl _) rfl
theorem ea_cons (ha : EV X E e m) (hr : EA X E es ms) (hs : starEach (e :: es) X.env = (false, eval e X.env) :: starEach es X.env := by rfl) : EA X E (e :: es) (m :: ms) :=
  PA.conv (pa_cons ha hr hs) fun σ H Q q => by
    obtain ⟨ba, O, Hf, s, R0, F⟩ := q
    refine ⟨ba, O, Hf, s, R0, F.bind.imp (fun r s1 F1 v H1 Hf1 R1 e1 ok1 => ?_) fun x s' q => q⟩
    obtain ⟨a, s2, Hf2, F2, e2, R2, ok2⟩ := retainA_ok R1 ok1 F1.bind
    refine ⟨ba, O, Hf2, s2, R2, F2.bind.imp (fun as s3 F3 vs H3 Hf3 R3 e3 ok3 => ?_) fun x s' q => ExW.mono (Same.trans e1 e2) q⟩
    exact F3 (v :: vs) H3 Hf3 R3 (Same.trans e1 (Same.trans e2 e3)) ⟨v, vs, rfl, ArOk.mono e3 ok2, ok3⟩
/-! ### displays -/
def mTup (ms : List (M Rv)) : M Rv := M.bind (mArgs ms) fun as => M.bind (M.lift (datsOf as)) fun ds => M.pure (.dat (.tuple ds))
def mLst (ms : List (M Rv)) : M Rv := M.bind (mArgs ms) fun as => M.bind (M.lift (datsOf as)) fun ds => M.pure (.fresh ds)
theorem ev_tup {x1} (h : EA X E es ms) (hz : ms.length ≤ sizeLine := by decide) : EV X E (.Tuple es x1 pos) (mTup ms) :=
  PE.conv (pe_tup h) fun σ H Q q => by
    obtain ⟨ba, O, Hf, s, R0, F⟩ := q
    refine ⟨ba, O, Hf, s, R0, (mArgs_len F.bind).imp (fun as s1 F1 vs H1 Hf1 R1 e1 ok1 => ?_) fun x s' q => q⟩
    obtain ⟨l, F1⟩ := F1
    obtain ⟨ds, ed, F2⟩ := F1.bind.lift
    refine ⟨by rw [ok1.length, l]; exact hz, fun p hp => ?_⟩
    exact got_end (K := X.K) (res := .dat (.tuple ds)) R1 (fun v H' Hf' R' e' ok' => F2 v H' Hf' R' (Same.trans e1 e') ok') (.tup hp (dats_rp ok1 ed))
theorem ev_lst (h : EA X E es ms) (hz : ms.length ≤ sizeLine := by decide) : EV X E (.List es pos) (mLst ms) :=
  PE.conv (pe_lst h) fun σ H Q q => by
    obtain ⟨ba, O, Hf, s, R0, F⟩ := q
    refine ⟨ba, O, Hf, s, R0, (mArgs_len F.bind).imp (fun as s1 F1 vs H1 Hf1 R1 e1 ok1 => ?_) fun x s' q => q⟩
    obtain ⟨l, F1⟩ := F1
    obtain ⟨ds, ed, F2⟩ := F1.bind.lift
    refine ⟨by rw [ok1.length, l]; exact hz, fun p hp => ?_⟩
    exact got_end (K := X.K) (res := .fresh ds) R1 (fun v H' Hf' R' e' ok' => F2 v H' Hf' R' (Same.trans e1 e') ok') (.lst hp (dats_rp ok1 ed))
end
/-! ### defs -/
abbrev Fn := Bag → List Ar → Option (Bag × Except Exn Rs)
def RsOk (K : PySem.W.Frag) (ba : Option Addr) (O Hf H : Hp) : Rs → V → Prop
  | .dat d, v => Rp K Hf d v
  | .fresh ds, v => ∃ a, v = .ref a ∧ OwnAt K ba O Hf H ds a
/-- the promise of a def whose meaning is f -/
def SpM (K : PySem.W.Frag) (mg : Str → Option Value) (n : Nat) (f : Fn) : Sp := fun vs H Q E => ∃ ba O Hf β as r β', as.length = n ∧ Reg K ba O Hf H β ∧ ArL K ba Hf as vs ∧ f β as = some (β', r) ∧
  match r with
  | .ok res => ∀ v H' Hf', Reg K ba O Hf' H' β' → Same Hf Hf' → RsOk K ba O Hf' H' res v → Q v H'
  | .error x => ∀ H' Hf' c d, Reg K ba O Hf' H' β' → Same Hf Hf' → ExOk K mg Hf' H' x c d → E c d H'
def mCall (f : Fn) (ms : List (M Rv)) : M Rv := M.bind (mArgs ms) fun as s => match f s.β as with
  | none => none
  | some (β', .ok r) => some ({ s with β := β' }, .ok r.rv)
  | some (β', .error x) => some ({ s with β := β' }, .error x)
section
open Classical
/-- what the callee's callers hold -/
noncomputable def callO (ba : Option Addr) (Hf H : Hp) : Hp := fun a => if Hf a = none ∧ ba ≠ some a then H a else none
theorem callO_reg {K : PySem.W.Frag} {ba : Option Addr} {O Hf H : Hp} {β : Bag} (R : Reg K ba O Hf H β) : Reg K ba (callO ba Hf H) Hf H β where
  sub := R.sub
  out := fun a o e => by
    unfold callO at e
    split at e
    · exact e
    · cases e
  dis := fun a h => by
    unfold callO
    rw [if_neg fun z => h z.1]
  bag := fun a e => by
    obtain ⟨h1, h2, h3⟩ := R.bag a e
    refine ⟨h1, h2, ?_⟩
    unfold callO
    rw [if_neg fun z => z.2 e]
theorem callO_at {ba : Option Addr} {Hf H : Hp} {a : Addr} (h1 : Hf a = none) (h2 : ba ≠ some a) : callO ba Hf H a = H a := by
  unfold callO
  rw [if_pos ⟨h1, h2⟩]
/-- behind a call, the caller's own state -/
theorem Rep.back {K : PySem.W.Frag} {ba : Option Addr} {O Hf H Hf' H' : Hp} {σ : St} {s : S} {β' : Bag} (R : Rep K ba O Hf H σ s) (G : Reg K ba (callO ba Hf H) Hf' H' β') (e : Same Hf Hf') : Rep K ba O Hf' H' σ { s with β := β' } := by
  have oc : ∀ {a : Addr} {o : HO}, O a = some o → callO ba Hf H a = some o := fun {a o} h => by
    have h1 : Hf a = none := by
      cases q : Hf a with
      | none => rfl
      | some x =>
        have z := R.reg.dis a (by rw [q]; simp)
        rw [h] at z; cases z
    have h2 : ba ≠ some a := fun z => by
      obtain ⟨_, _, h3⟩ := R.reg.bag a z
      rw [h] at h3; cases h3
    rw [callO_at h1 h2]
    exact R.reg.out a o h
  refine ⟨⟨G.sub, fun a o h => G.out a o (oc h), fun a h => ?_, fun a h => ?_⟩, R.len, fun i sl x e1 e2 => ?_, R.uni⟩
  · cases q : O a with
    | none => rfl
    | some o =>
      have z := G.dis a h
      rw [oc q] at z; cases z
  · obtain ⟨h1, h2, _⟩ := G.bag a h
    exact ⟨h1, h2, (R.reg.bag a h).2.2⟩
  · have q := R.slot i sl x e1 e2
    cases sl with
    | no => trivial
    | dat d => obtain ⟨w, q1, q2⟩ := q; exact ⟨w, q1, Rp.mono e _ _ q2⟩
    | own es =>
      obtain ⟨b, q1, vs, h1, h2, h3, h4, h5⟩ := q
      have hc : callO ba Hf H b = some (.lst vs) := by rw [callO_at h2 h4]; exact h1
      refine ⟨b, q1, vs, G.out _ _ hc, ?_, h3, h4, RpL.mono e _ _ h5⟩
      cases z : Hf' b with
      | none => rfl
      | some o =>
        have z' := G.dis b (by rw [z]; simp)
        rw [hc] at z'; cases z'
    | bag => exact q
theorem RsOk.back {K : PySem.W.Frag} {ba : Option Addr} {O Hf H Hf' H' : Hp} {σ : St} {s : S} {β' : Bag} {res : Rs} {v : V} (R : Rep K ba O Hf H σ s) (h : RsOk K ba (callO ba Hf H) Hf' H' res v) : RvOk K ba O Hf' H' σ { s with β := β' } res.rv v := by
  cases res with
  | dat d => exact h
  | fresh ds =>
    obtain ⟨a, rfl, vs, h1, h2, h3, h4, h5⟩ := h
    refine ⟨a, rfl, ⟨vs, h1, h2, ?_, h4, h5⟩, fun i es e1 e2 => ?_⟩
    · cases q : O a with
      | none => rfl
      | some o =>
        have f1 : Hf a = none := by
          cases z : Hf a with
          | none => rfl
          | some x =>
            have z' := R.reg.dis a (by rw [z]; simp)
            rw [q] at z'; cases z'
        rw [callO_at f1 h4, R.reg.out a o q] at h3
        cases h3
    · obtain ⟨b, q1, ws, k1, k2, k3, k4, k5⟩ := R.slot i _ _ e1 e2
      cases q1
      rw [callO_at k2 k4, k1] at h3
      cases h3
end
section
variable {X : Cx} {E : WX} {k : Nat} {f : Addr} {fd : FuncData} {ps : List Str} {F : Fn} {x : Str} {p pos : Pos} {e : Expr} {es : List Expr} {ms : List (M Rv)}
theorem runG {sp : Sp} {pins : List (Addr × Obj)} {σ : St} {H : Hp} {s : Shared} {Q : VK} {us : List Value} {vs : List V} (G : FnG X.prog X.w X.K X.mg X.base (L2.CX X.prog X.w) k f fd ps sp) (hgd : X.A.guards = some []) (hr : Room k X.A) (hb : Binds X.K fd ps []) (tk : Takes X E)
    (I : Inv X pins σ H s) (r : Vals vs us) (h : sp vs H Q fun c d H' => E c d σ H') : wpAny (model X.prog X.w) X.A (call (.ref f) us) (EP X pins σ Q) X.xe s := by
  have hl : us.length = ps.length := by rw [← r.length]; exact G.len _ _ _ _ h
  have hb' := hb s us I.kIn (by rw [List.append_nil]; exact hl)
  rw [List.append_nil] at hb'
  refine wpAny_call (codeAny_mono (G.go X.A X.stack s H ⟨us, []⟩ us vs Q (fun c d H' => E c d σ H') hgd hr I.env0 hb' r h) fun z s' hq => ?_)
  match z, hq with
  | .error e, hq => exact tk e s' (XE.of_call I (fun _ _ _ z => z) hq)
  | .ok (.ret u), hq => exact I.after hq
/-- what stands behind the arguments of a call -/
theorem call_ask {σ : St} {H : Hp} {Q : VK} (q : tM X.K X.mg E (mCall F ms) σ H Q) : tMA X.K X.mg E (mArgs ms) σ H fun vs H1 => SpM X.K X.mg ms.length F vs H1 Q fun c d H' => E c d σ H' := by
  obtain ⟨ba, O, Hf, s, R0, F0⟩ := q
  refine ⟨ba, O, Hf, s, R0, (mArgs_len F0.bind).imp (fun as s1 F1 vs H1 Hf1 R1 e1 ok1 => ?_) fun x s' q => q⟩
  obtain ⟨l, F1⟩ := F1
  cases ef : F s1.β as with
  | none => simp only [ef] at F1; exact F1.elim
  | some q =>
    obtain ⟨β', r⟩ := q
    refine ⟨ba, callO ba Hf1 H1, Hf1, s1.β, as, r, β', l, callO_reg R1.reg, ok1, ef, ?_⟩
    cases r with
    | ok res =>
      simp only [ef] at F1
      intro v H' Hf' G e2 ok2
      exact F1 v H' Hf' (R1.back G e2) (Same.trans e1 e2) (RsOk.back R1 ok2)
    | error x =>
      simp only [ef] at F1
      intro H' Hf' c d G e2 ok2
      exact F1 H' Hf' c d (R1.back G e2) (Same.trans e1 e2) ok2
theorem ev_call (G : FnG X.prog X.w X.K X.mg X.base (L2.CX X.prog X.w) k f fd ps (SpM X.K X.mg ms.length F)) (hgd : X.A.guards = some []) (hr : Room k X.A) (tk : Takes X E) (hg : Gl X x) (hm : X.mg x = some (.ref f)) (hk : PySem.W.keepIn X.K (.ref f) = true) (hb : Binds X.K fd ps [])
    (ha : EA X E (e :: es) ms) (hdb : (x == ("__debug__" : Str)) = false := by decide) (he : starEach (e :: es) X.env = (false, eval e X.env) :: starEach es X.env := by rfl) (hpl : (backTo pos (starEach es X.env)).any (·.1) = false := by rfl) :
    EV X E (.Call (.Name x p) (e :: es) [] pos) (mCall F ms) := by
  refine ⟨fun pins s σ H Q I h => ?_⟩; refine wpAny_Call_Name_kw (ld_glob I hg hm ?_ hdb)
  refine PySem.W.callWith_K (h₀ := X.base) I.ok.mod.kin hk (thn (ha.run pos pins s σ H _ I (call_ask h)) fun us s1 hz => ?_) he hpl
  obtain ⟨vs, H1, I1, r, q⟩ := hz
  exact ⟨I1.kIn, runG G hgd hr hb tk I1 r q⟩
end
end Pu
/-! Pu7: what is walked; statements. -/
namespace Pu
open PySem PySem.Spec PyProof.Rows L2
/-! ### what is walked -/
/-- a turn's item: as it stands, or a new tuple -/
def YOk (K : PySem.W.Frag) (Hf H H' : Hp) (x : V) (d : D) : Prop :=
  (H' = H ∧ Rp K Hf d x) ∨ ∃ T xs es, x = .ref T ∧ H T = none ∧ H' = upd H T (.tup xs) ∧ d = .tuple es ∧ RpL K Hf es xs
structure ItOk (K : PySem.W.Frag) (J : It) (Hf : Hp) (ds : List D) : Prop where
  go : ∀ (i : Nat) H, Same Hf H → i < ds.length → J.go i H
  yld : ∀ (i : Nat) H x H' d, Same Hf H → ds[i]? = some d → J.yld i H x H' → YOk K Hf H H' x d
  stop : ∀ (i : Nat) H, Same Hf H → i = ds.length → J.stop i H
theorem YOk.mono {K : PySem.W.Frag} {Hf Hf' H H' : Hp} {x : V} {d : D} (e : Same Hf Hf') (h : YOk K Hf H H' x d) : YOk K Hf' H H' x d := by
  rcases h with ⟨h1, h2⟩ | ⟨T, xs, es, h1, h2, h3, h4, h5⟩
  · exact .inl ⟨h1, Rp.mono e _ _ h2⟩
  · exact .inr ⟨T, xs, es, h1, h2, h3, h4, RpL.mono e _ _ h5⟩
theorem ItOk.mono {K : PySem.W.Frag} {J : It} {Hf Hf' : Hp} {ds : List D} (e : Same Hf Hf') (h : ItOk K J Hf ds) : ItOk K J Hf' ds :=
  ⟨fun i H s => h.go i H (Same.trans e s), fun i H x H' d s a y => (h.yld i H x H' d (Same.trans e s) a y).mono e, fun i H s => h.stop i H (Same.trans e s)⟩
/-- the item, taken into the state -/
theorem Rep.item {K : PySem.W.Frag} {ba : Option Addr} {O Hf H H' : Hp} {σ : St} {s : S} {x : V} {d : D} (R : Rep K ba O Hf H σ s) (y : YOk K Hf H H' x d) : ∃ Hf', Same Hf Hf' ∧ Rep K ba O Hf' H' σ s ∧ Rp K Hf' d x := by
  rcases y with ⟨rfl, h⟩ | ⟨T, xs, es, rfl, h2, rfl, rfl, h5⟩
  · exact ⟨Hf, Same.refl _, R, h⟩
  · exact R.got (.tup h2 h5)
abbrev iM (K : PySem.W.Frag) (mg : Str → Option Value) (E : WX) (m : M (List D)) : TI := fun σ H R => ∃ ba O Hf s, Rep K ba O Hf H σ s ∧
  Fits (m s) (fun ds s' => ∀ J H' Hf', Rep K ba O Hf' H' σ s' → Same Hf Hf' → ItOk K J Hf' ds → R J H') (ExW K mg E ba O Hf σ)
abbrev EI (X : Cx) (E : WX) (tg iter : Expr) (m : M (List D)) : Prop := PI X tg iter (iM X.K X.mg E m)
def mSeq (m : M Rv) : M (List D) := M.bind m fun r => M.bind (retain r) fun d => match d with
  | .list ds => M.pure ds
  | .tuple ds => M.pure ds
  | _ => M.stuck
def rangeD (lo : Int) (n : Nat) : List D := (List.range n).map fun (i : Nat) => .int (lo + i)
def small62 (i : Int) : Bool := decide (-(2 ^ 62) ≤ i) && decide (i < 2 ^ 62)
def mRng1 (m : M Rv) : M (List D) := M.bind m fun r => match r with
  | .dat (.int j) => if small62 j then M.pure (rangeD 0 j.toNat) else M.stuck
  | _ => M.stuck
def mRng2 (m1 m2 : M Rv) : M (List D) := M.bind m1 fun r1 => M.bind m2 fun r2 => match r1, r2 with
  | .dat (.int i), .dat (.int j) => if small62 i && small62 j then M.pure (rangeD i (j - i).toNat) else M.stuck
  | _, _ => M.stuck
theorem retain_ok_only {r : Rv} {s s' : S} {x : Exn} (h : retain r s = some (s', .error x)) : False := by
  cases r with
  | dat d => cases h
  | fresh ds => cases h
  | bag => cases h
  | slot i =>
    unfold retain at h
    simp only at h
    cases e : s.ρ[i]? with
    | none => (rw [e] at h; cases h)
    | some sl =>
      rw [e] at h
      cases sl <;> cases h
section
variable {X : Cx} {E : WX} {tg : Expr}
theorem PI.conv {e : Expr} {t t' : TI} (h : PI X tg e t) (c : ∀ σ H R, t' σ H R → t σ H R) : PI X tg e t' := ⟨fun pins s σ H R I q => h.run pins s σ H R I (c σ H R q)⟩
theorem PI.or {e : Expr} {t t' : TI} (h : PI X tg e t) (h' : PI X tg e t') : PI X tg e fun σ H R => t σ H R ∨ t' σ H R :=
  ⟨fun pins s σ H R I q => by
    rcases q with q | q
    · exact h.run pins s σ H R I q
    · exact h'.run pins s σ H R I q⟩
theorem itok_list {K : PySem.W.Frag} {Hf : Hp} {a : Addr} {vs : List V} {ds : List D} (h1 : SqL K Hf a vs) (h2 : RpL K Hf ds vs) : ItOk K (Itl K a) Hf ds where
  go := fun i H s hi => by
    obtain ⟨v, e, _⟩ := h2.get (List.getElem?_eq_getElem hi)
    exact ⟨vs, v, Same.sqL s h1, e⟩
  yld := fun i H x H' d s e y => by
    obtain ⟨v, e1, r⟩ := h2.get e
    have e2 := y.2 vs (Same.sqL s h1)
    rw [e1] at e2
    cases e2
    exact .inl ⟨y.1, r⟩
  stop := fun i H s hi => ⟨vs, Same.sqL s h1, by rw [h2.length]; omega⟩
theorem itok_tup {K : PySem.W.Frag} {Hf : Hp} {a : Addr} {vs : List V} {ds : List D} (h1 : SqT K Hf a vs) (h2 : RpL K Hf ds vs) : ItOk K (Itt K a) Hf ds where
  go := fun i H s hi => by
    obtain ⟨v, e, _⟩ := h2.get (List.getElem?_eq_getElem hi)
    exact ⟨vs, v, Same.sqT s h1, e⟩
  yld := fun i H x H' d s e y => by
    obtain ⟨v, e1, r⟩ := h2.get e
    have e2 := y.2 vs (Same.sqT s h1)
    rw [e1] at e2
    cases e2
    exact .inl ⟨y.1, r⟩
  stop := fun i H s hi => ⟨vs, Same.sqT s h1, by rw [h2.length]; omega⟩
theorem itok_range {K : PySem.W.Frag} {Hf : Hp} {lo : Int} {n : Nat} : ItOk K (Itr lo n) Hf (rangeD lo n) where
  go := fun i H s hi => by
    have e : (rangeD lo n).length = n := by simp [rangeD]
    rw [e] at hi
    exact hi
  yld := fun i H x H' d s e y => by
    obtain ⟨rfl, rfl⟩ := y
    have hi : i < n := by
      have := (List.getElem?_eq_some_iff.mp e).1
      simpa [rangeD] using this
    have e' : d = .int (lo + i) := by
      simp only [rangeD, List.getElem?_map, List.getElem?_range hi, Option.map_some] at e
      exact (Option.some.inj e).symm
    subst e'
    exact .inl ⟨rfl, by simp only [Rp]⟩
  stop := fun i H s hi => by
    have e : (rangeD lo n).length = n := by simp [rangeD]
    rw [e] at hi
    exact Nat.le_of_eq hi.symm
theorem ei_seq {l : Expr} {m : M Rv} (h : EV X E l m) : EI X E tg l (mSeq m) := PI.conv (PI.or (pi_list h) (pi_tup h)) fun σ H R q => by
  obtain ⟨ba, O, Hf, s, R0, F⟩ := q
  have F := F.bind
  -- which of the two is told by the meaning
  cases e : m s with
  | none => rw [e] at F; exact F.elim
  | some q =>
    obtain ⟨s1, r⟩ := q
    rw [e] at F
    cases r with
    | error x => exact .inl ⟨ba, O, Hf, s, R0, by rw [e]; exact F⟩
    | ok r =>
      have F1 : Fits (retain r s1) _ _ := Fits.bind F
      cases e2 : retain r s1 with
      | none => rw [e2] at F1; exact F1.elim
      | some q =>
        obtain ⟨s2, r2⟩ := q
        cases r2 with
        | error x =>
          refine .inl ⟨ba, O, Hf, s, R0, ?_⟩
          rw [e]
          intro v H1 Hf1 R1 e1 ok1
          exact (retain_ok_only e2).elim
        | ok d =>
          have keep : ∀ (v : V) (H1 Hf1 : Hp), Rep X.K ba O Hf1 H1 σ s1 → RvOk X.K ba O Hf1 H1 σ s1 r v → ∃ Hf2, Same Hf1 Hf2 ∧ Rep X.K ba O Hf2 H1 σ s2 ∧ Rp X.K Hf2 d v := fun v H1 Hf1 R1 ok1 => by
            obtain ⟨d', s', Hf', o, e', R', p⟩ := retain_ok (ok := fun a b => a = d ∧ b = s2) (ex := fun _ _ => False) R1 ok1 (by rw [e2]; exact ⟨rfl, rfl⟩)
            obtain ⟨rfl, rfl⟩ := o
            exact ⟨Hf', e', R', p⟩
          rw [e2] at F1
          cases d with
          | list ds =>
            refine .inl ⟨ba, O, Hf, s, R0, ?_⟩
            rw [e]
            intro v H1 Hf1 R1 e1 ok1
            obtain ⟨Hf2, e3, R2, p⟩ := keep v H1 Hf1 R1 ok1
            simp only [Rp] at p
            obtain ⟨a, vs, rfl, h1, h2⟩ := p
            exact ⟨a, rfl, ⟨vs, Same.sqL R2.reg.sub h1⟩, F1 _ H1 Hf2 R2 (Same.trans e1 e3) (itok_list h1 h2)⟩
          | tuple ds =>
            refine .inr ⟨ba, O, Hf, s, R0, ?_⟩
            rw [e]
            intro v H1 Hf1 R1 e1 ok1
            obtain ⟨Hf2, e3, R2, p⟩ := keep v H1 Hf1 R1 ok1
            simp only [Rp] at p
            obtain ⟨a, vs, rfl, h1, h2⟩ := p
            exact ⟨a, rfl, ⟨vs, Same.sqT R2.reg.sub h1⟩, F1 _ H1 Hf2 R2 (Same.trans e1 e3) (itok_tup h1 h2)⟩
          | _ => exact F1.elim
theorem small62_of {i : Int} (h : small62 i = true) : -(2 ^ 62) ≤ i ∧ i < 2 ^ 62 := by
  simpa only [small62, Bool.and_eq_true, decide_eq_true_eq] using h
theorem ei_rng1 {a : Expr} {m : M Rv} {p pos : Pos} (hg : Gl X "range") (hm : X.mg "range" = none) (ha : EV X E a m) (hs : starEach [a] X.env = [(false, eval a X.env)] := by rfl) : EI X E tg (.Call (.Name "range" p) [a] [] pos) (mRng1 m) :=
  PI.conv (pi_range1 hg hm (pa_cons ha pa_nil (by rw [hs]; rfl)) hs) fun σ H R q => by
    obtain ⟨ba, O, Hf, s, R0, F⟩ := q
    refine ⟨ba, O, Hf, s, R0, F.bind.imp (fun r s1 F1 v H1 Hf1 R1 e1 ok1 => ?_) fun x s' q => q⟩
    cases r with
    | dat d =>
      cases d with
      | int j =>
        by_cases hj : small62 j = true
        · simp only [hj] at F1
          obtain ⟨h1, h2⟩ := small62_of hj
          exact ⟨j, by rw [rp_int (K := X.K) (Hf := Hf1) ok1], h1, h2, F1 _ H1 Hf1 R1 e1 itok_range⟩
        · simp only [hj] at F1
          exact F1.elim
      | _ => exact F1.elim
    | _ => exact F1.elim
theorem ei_rng2 {a b : Expr} {m1 m2 : M Rv} {p pos : Pos} (hg : Gl X "range") (hm : X.mg "range" = none) (ha : EV X E a m1) (hb : EV X E b m2) (hs : starEach [a, b] X.env = [(false, eval a X.env), (false, eval b X.env)] := by rfl) (hs2 : starEach [b] X.env = [(false, eval b X.env)] := by rfl) :
    EI X E tg (.Call (.Name "range" p) [a, b] [] pos) (mRng2 m1 m2) :=
  PI.conv (pi_range2 hg hm (pa_cons ha (pa_cons hb pa_nil (by rw [hs2]; rfl)) (by rw [hs, hs2])) hs hs2) fun σ H R q => by
    obtain ⟨ba, O, Hf, s, R0, F⟩ := q
    refine ⟨ba, O, Hf, s, R0, F.bind.imp (fun r s1 F1 v H1 Hf1 R1 e1 ok1 => ?_) fun x s' q => q⟩
    refine ⟨ba, O, Hf1, s1, R1, F1.bind.imp (fun r2 s2 F2 v2 H2 Hf2 R2 e2 ok2 => ?_) fun x s' q => ExW.mono e1 q⟩
    cases r with
    | dat d =>
      cases d with
      | int i =>
        cases r2 with
        | dat d2 =>
          cases d2 with
          | int j =>
            by_cases hj : (small62 i && small62 j) = true
            · simp only [hj] at F2
              have hj' := hj
              rw [Bool.and_eq_true] at hj'
              obtain ⟨h1, h2⟩ := small62_of hj'.1
              obtain ⟨h3, h4⟩ := small62_of hj'.2
              exact ⟨i, j, by rw [rp_int (K := X.K) (Hf := Hf1) ok1, rp_int (K := X.K) (Hf := Hf2) ok2], ⟨h1, h2, h3, h4⟩, F2 _ H2 Hf2 R2 (Same.trans e1 e2) itok_range⟩
            · simp only [hj] at F2
              exact F2.elim
          | _ => exact F2.elim
        | _ => exact F2.elim
      | _ => cases r2 with
        | dat d2 => exact F2.elim
        | _ => exact F2.elim
    | _ => cases r2 with
      | dat d2 => exact F2.elim
      | _ => exact F2.elim
end
/-! ### statements -/
inductive Fl where
  | nx | rt (r : Rv) | bk | ct
def EndOk (K : PySem.W.Frag) (ba : Option Addr) (O Hf H : Hp) (σ : St) (s : S) (D : Ends) : Fl → Prop
  | .nx => D.nx σ H
  | .bk => D.bk σ H
  | .ct => D.ct σ H
  | .rt r => ∀ v, RvOk K ba O Hf H σ s r v → D.rt v H
/-- the exceptions' half of a statement -/
abbrev ExS (K : PySem.W.Frag) (mg : Str → Option Value) (E : WX) (ba : Option Addr) (O Hf : Hp) : Exn → S → Prop :=
  fun x s' => ∀ σ' H' Hf' c d, Rep K ba O Hf' H' σ' s' → Same Hf Hf' → ExOk K mg Hf' H' x c d → E c d σ' H'
theorem ExS.mono {K : PySem.W.Frag} {mg : Str → Option Value} {E : WX} {ba : Option Addr} {O Hf Hf1 : Hp} (e : Same Hf Hf1) {x : Exn} {s' : S} (h : ExS K mg E ba O Hf x s') : ExS K mg E ba O Hf1 x s' :=
  fun σ' H' Hf' c d r k ex => h σ' H' Hf' c d r (Same.trans e k) ex
theorem ExS.at {K : PySem.W.Frag} {mg : Str → Option Value} {E : WX} {ba : Option Addr} {O Hf : Hp} {σ : St} {x : Exn} {s' : S} (h : ExS K mg E ba O Hf x s') : ExW K mg E ba O Hf σ x s' := fun H' Hf' c d => h σ H' Hf' c d
def tMS (K : PySem.W.Frag) (mg : Str → Option Value) (E : WX) (m : M Fl) : TS := fun D σ H => ∃ ba O Hf s, Rep K ba O Hf H σ s ∧
  Fits (m s) (fun fl s' => ∀ σ' H' Hf', Rep K ba O Hf' H' σ' s' → Same Hf Hf' → EndOk K ba O Hf' H' σ' s' D fl) (ExS K mg E ba O Hf)
abbrev ES (X : Cx) (E : WX) (st : Stmt) (m : M Fl) : Prop := PS X st (tMS X.K X.mg E m)
abbrev ESs (X : Cx) (E : WX) (st : List Stmt) (m : M Fl) : Prop := PSs X st (tMS X.K X.mg E m)
def mThen (m n : M Fl) : M Fl := M.bind m fun f => match f with
  | .nx => n
  | f => M.pure f
def mNx : M Fl := M.pure .nx
def mIfS (t : M Bool) (m n : M Fl) : M Fl := M.bind t fun b => if b then m else n
def mRet (m : M Rv) : M Fl := M.bind m fun r => M.pure (.rt r)
def mRetN : M Fl := M.pure (.rt (.dat .none))
def mExpr (m : M Rv) : M Fl := M.bind m fun _ => M.pure .nx
/-- a name's new content -/
def slOf : Rv → Option Sl
  | .dat d => some (.dat d)
  | .fresh ds => some (.own ds)
  | _ => none
def mStore (i : Nat) (r : Rv) : M Unit := fun s => match r with
  | .dat d => some ({ s with ρ := s.ρ.set i (.dat d) }, .ok ())
  | .fresh ds => some ({ s with ρ := s.ρ.set i (.own ds) }, .ok ())
  | .slot j => match s.ρ[j]? with
    | some (.own ds) => some ({ s with ρ := (s.ρ.set j (.dat (.list ds))).set i (.dat (.list ds)) }, .ok ())
    | _ => none
  | .bag => some ({ s with ρ := s.ρ.set i .bag }, .ok ())
def mSet (i : Nat) (m : M Rv) : M Fl := M.bind m fun r => M.bind (mStore i r) fun _ => M.pure .nx
section
variable {K : PySem.W.Frag} {ba : Option Addr} {O Hf H : Hp} {σ : St} {s : S} {v : V} {i : Nat}
theorem Rep.store {sl : Sl} (R : Rep K ba O Hf H σ s) (h : SlOk K ba O Hf H sl (some v)) (u : ∀ ds, sl = .own ds → ∀ (j : Nat) es, j ≠ i → s.ρ[j]? = some (.own es) → σ[j]? ≠ some (some v)) : Rep K ba O Hf H (σ.set i (some v)) { s with ρ := s.ρ.set i sl } := by
  refine ⟨R.reg, by simp only [List.length_set]; exact R.len, fun j sl' x e1 e2 => ?_, fun j k ds es x ne e1 e2 e3 => ?_⟩
  · by_cases ji : i = j
    · subst ji
      have hi : i < s.ρ.length := by
        have := (List.getElem?_eq_some_iff.mp e1).1
        simpa using this
      rw [List.getElem?_set_self hi] at e1
      rw [List.getElem?_set_self (by rw [← R.len]; exact hi)] at e2
      cases e1
      cases e2
      exact h
    · rw [List.getElem?_set_ne ji] at e1 e2
      exact R.slot j sl' x e1 e2
  · by_cases ji : i = j
    · subst ji
      have hi : i < s.ρ.length := by
        have := (List.getElem?_eq_some_iff.mp e1).1
        simpa using this
      rw [List.getElem?_set_self hi] at e1
      rw [List.getElem?_set_self (by rw [← R.len]; exact hi)] at e3
      cases e1
      cases e3
      rw [List.getElem?_set_ne ne] at e2 ⊢
      exact u ds rfl k es ne.symm e2
    · rw [List.getElem?_set_ne ji] at e1 e3
      by_cases ki : i = k
      · subst ki
        have hi : i < s.ρ.length := by
          have := (List.getElem?_eq_some_iff.mp e2).1
          simpa using this
        rw [List.getElem?_set_self hi] at e2
        cases e2
        rw [List.getElem?_set_self (by rw [← R.len]; exact hi)]
        intro z
        rw [← z] at e3
        exact u es rfl j ds ne e1 e3
      · rw [List.getElem?_set_ne ki] at e2 ⊢
        exact R.uni j k ds es x ne e1 e2 e3
theorem mStore_ok {r : Rv} {ok : Unit → S → Prop} {ex : Exn → S → Prop} (R : Rep K ba O Hf H σ s) (h : RvOk K ba O Hf H σ s r v) (f : Fits (mStore i r s) ok ex) : ∃ s' Hf', ok () s' ∧ Same Hf Hf' ∧ Rep K ba O Hf' H (σ.set i (some v)) s' := by
  cases r with
  | dat d => exact ⟨_, Hf, f, Same.refl _, R.store (sl := .dat d) ⟨v, rfl, h⟩ fun ds z => nomatch z⟩
  | bag =>
    obtain ⟨a, h1, rfl⟩ := h
    exact ⟨_, Hf, f, Same.refl _, R.store (sl := .bag) ⟨a, h1, rfl⟩ fun ds z => nomatch z⟩
  | fresh ds =>
    obtain ⟨a, rfl, h1, h2⟩ := h
    exact ⟨_, Hf, f, Same.refl _, R.store (sl := .own ds) ⟨a, rfl, h1⟩ fun _ _ j es _ e => h2 j es e⟩
  | slot j =>
    obtain ⟨ds, h1, h2⟩ := h
    unfold mStore at f
    simp only [h1] at f
    obtain ⟨Hf', e, R', p⟩ := R.freezeSlot h1 h2
    exact ⟨_, Hf', f, e, R'.store (sl := .dat (.list ds)) ⟨v, rfl, p⟩ fun ds z => nomatch z⟩
end
section
variable {X : Cx} {E : WX} {st : Stmt} {rest : List Stmt} {e : Expr} {m n : M Fl} {mr : M Rv} {t : M Bool} {pos : Pos}
theorem tMS.bind {α : Type} {g : M α} {f : α → M Fl} {ba : Option Addr} {O Hf : Hp} {s : S} {D : Ends} (h : Fits ((M.bind g f) s) (fun fl s' => ∀ σ' H' Hf', Rep X.K ba O Hf' H' σ' s' → Same Hf Hf' → EndOk X.K ba O Hf' H' σ' s' D fl) (ExS X.K X.mg E ba O Hf))
    {ok : α → S → Prop} {σ : St} (k : ∀ a s', Fits (f a s') (fun fl s' => ∀ σ' H' Hf', Rep X.K ba O Hf' H' σ' s' → Same Hf Hf' → EndOk X.K ba O Hf' H' σ' s' D fl) (ExS X.K X.mg E ba O Hf) → ok a s') : Fits (g s) ok (ExW X.K X.mg E ba O Hf σ) :=
  h.bind.imp k fun x s' q => q.at
theorem end_mono {ba : Option Addr} {O Hf Hf1 : Hp} {s : S} {D : Ends} {m : M Fl} (e : Same Hf Hf1) (h : Fits (m s) (fun fl s' => ∀ σ' H' Hf', Rep X.K ba O Hf' H' σ' s' → Same Hf Hf' → EndOk X.K ba O Hf' H' σ' s' D fl) (ExS X.K X.mg E ba O Hf)) :
    Fits (m s) (fun fl s' => ∀ σ' H' Hf', Rep X.K ba O Hf' H' σ' s' → Same Hf1 Hf' → EndOk X.K ba O Hf' H' σ' s' D fl) (ExS X.K X.mg E ba O Hf1) :=
  h.imp (fun fl s' q σ' H' Hf' R e' => q σ' H' Hf' R (Same.trans e e')) fun x s' q => ExS.mono e q
theorem ess_nil : ESs X E [] mNx := PSs.conv pss_nil fun D σ H q => by
  obtain ⟨ba, O, Hf, s, R, F⟩ := q
  exact F σ H Hf R (Same.refl _)
theorem ess_cons (h1 : ES X E st m) (h2 : ESs X E rest n) : ESs X E (st :: rest) (mThen m n) := PSs.conv (pss_cons h1 h2) fun D σ H q => by
  obtain ⟨ba, O, Hf, s, R, F⟩ := q
  refine ⟨ba, O, Hf, s, R, F.bind.imp (fun fl s' F' σ' H' Hf' R' e' => ?_) fun x s' q => q⟩
  cases fl with
  | nx => exact ⟨ba, O, Hf', s', R', end_mono e' F'⟩
  | bk => exact F' σ' H' Hf' R' e'
  | ct => exact F' σ' H' Hf' R' e'
  | rt r => exact F' σ' H' Hf' R' e'
theorem ess_one (h : ES X E st m) : ESs X E [st] m := pss_one h
theorem es_pass : ES X E (.Pass pos) mNx := PS.conv ps_pass fun D σ H q => by
  obtain ⟨ba, O, Hf, s, R, F⟩ := q
  exact F σ H Hf R (Same.refl _)
theorem es_break : ES X E (.Break pos) (M.pure .bk) := PS.conv ps_break fun D σ H q => by
  obtain ⟨ba, O, Hf, s, R, F⟩ := q
  exact F σ H Hf R (Same.refl _)
theorem es_continue : ES X E (.Continue pos) (M.pure .ct) := PS.conv ps_continue fun D σ H q => by
  obtain ⟨ba, O, Hf, s, R, F⟩ := q
  exact F σ H Hf R (Same.refl _)
theorem es_expr (he : EV X E e mr) (hs : swapsWith e none pos.line X.env = pure false := by rfl) : ES X E (.Expr e pos) (mExpr mr) := PS.conv (ps_expr he hs) fun D σ H q => by
  obtain ⟨ba, O, Hf, s, R, F⟩ := q
  exact ⟨ba, O, Hf, s, R, tMS.bind F fun r s' F' v H' Hf' R' e' ok => F' σ H' Hf' R' e'⟩
theorem es_ret (he : EV X E e mr) : ES X E (.Return (some e) pos) (mRet mr) := PS.conv (ps_ret he) fun D σ H q => by
  obtain ⟨ba, O, Hf, s, R, F⟩ := q
  exact ⟨ba, O, Hf, s, R, tMS.bind F fun r s' F' v H' Hf' R' e' ok => F' σ H' Hf' R' e' v ok⟩
theorem es_retN : ES X E (.Return none pos) mRetN := PS.conv ps_retN fun D σ H q => by
  obtain ⟨ba, O, Hf, s, R, F⟩ := q
  exact F σ H Hf R (Same.refl _) .non (show Rp X.K Hf .none .non by simp only [Rp])
theorem es_if {c : Expr} {a b : List Stmt} (hc : ET X E c t) (ha : ESs X E a m) (hb : ESs X E b n) : ES X E (.If c a b pos) (mIfS t m n) := PS.conv (ps_if hc ha hb) fun D σ H q => by
  obtain ⟨ba, O, Hf, s, R, F⟩ := q
  refine ⟨ba, O, Hf, s, R, tMS.bind F fun b s' F' H' Hf' R' e' => ?_⟩
  cases b with
  | true => exact ⟨ba, O, Hf', s', R', end_mono e' F'⟩
  | false => exact ⟨ba, O, Hf', s', R', end_mono e' F'⟩
/-- never come to -/
theorem es_never : ES X E st M.stuck := PS.conv ps_never fun D σ H q => by
  obtain ⟨ba, O, Hf, s, R, F⟩ := q
  exact F
theorem es_set {i : Nat} {x : Str} {pos' : Pos} (hN : X.N.Nodup) (hi : X.N[i]? = some x) (hx : Loc X.env.scope x) (he : EV X E e mr) (hs : swapsWith e (some (.Name x pos')) pos.line X.env = pure false := by rfl) (hf : X.fn x = true ∨ X.env.scope.names.lookup x = some .local := by first | exact .inl rfl | exact .inr rfl | assumption) :
    ES X E (.Assign [.Name x pos'] e pos) (mSet i mr) := PS.conv (ps_set hN hi hx he hs hf) fun D σ H q => by
  obtain ⟨ba, O, Hf, s, R, F⟩ := q
  refine ⟨ba, O, Hf, s, R, tMS.bind F fun r s' F' v H' Hf' R' e' ok => ?_⟩
  obtain ⟨s2, Hf2, F2, e2, R2⟩ := mStore_ok R' ok F'.bind
  exact F2 _ H' Hf2 R2 (Same.trans e' e2)
end
end Pu
/-! Pu8: targets, loops, what a name's own list may suffer. -/
namespace Pu
open PySem PySem.Spec PyProof.Rows L2
/-! ### targets -/
/-- none but these slots are changed -/
def Only (vs : List Nat) (σ σ' : St) : Prop := σ'.length = σ.length ∧ ∀ i : Nat, i ∉ vs → σ'[i]? = σ[i]?
theorem Only.refl (vs : List Nat) (σ : St) : Only vs σ σ := ⟨rfl, fun _ _ => rfl⟩
theorem Only.trans {vs : List Nat} {a b c : St} (h : Only vs a b) (k : Only vs b c) : Only vs a c := ⟨k.1.trans h.1, fun i hi => (k.2 i hi).trans (h.2 i hi)⟩
theorem Only.more {vs ws : List Nat} {a b : St} (h : Only vs a b) (s : ∀ i ∈ vs, i ∈ ws) : Only ws a b := ⟨h.1, fun i hi => h.2 i fun z => hi (s i z)⟩
theorem Only.set {i : Nat} {v : Option V} (σ : St) : Only [i] σ (σ.set i v) := ⟨by rw [List.length_set], fun j hj => by
  have : i ≠ j := fun z => hj (by simp [z])
  rw [List.getElem?_set_ne this]⟩
theorem wipe_in {σ : St} {i : Nat} : ∀ {vs : List Nat}, i ∈ vs → i < σ.length → (wipe σ vs)[i]? = some none
  | v :: vs, h, hl => by
    unfold wipe
    by_cases e : v = i
    · subst e
      rw [List.getElem?_set_self (by rw [wipe_length]; exact hl)]
    · rw [List.getElem?_set_ne e]
      rcases (List.mem_cons.mp h) with z | z
      · exact absurd z.symm e
      · exact wipe_in z hl
theorem wipe_not {σ : St} {i : Nat} : ∀ {vs : List Nat}, i ∉ vs → (wipe σ vs)[i]? = σ[i]?
  | [], _ => rfl
  | v :: vs, h => by
    unfold wipe
    have h1 : v ≠ i := fun z => h (by rw [z]; exact List.mem_cons_self)
    rw [List.getElem?_set_ne h1]
    exact wipe_not fun z => h (List.mem_cons_of_mem _ z)
theorem Only.wipe {vs ws : List Nat} {a b : St} (h : Only vs a b) (s : ∀ i ∈ vs, i ∈ ws) : wipe b ws = wipe a ws := by
  refine List.ext_getElem? fun i => ?_
  by_cases hi : i ∈ ws
  · by_cases hl : i < a.length
    · rw [wipe_in hi hl, wipe_in hi (by rw [h.1]; exact hl)]
    · rw [List.getElem?_eq_none (by rw [wipe_length, h.1]; omega), List.getElem?_eq_none (by rw [wipe_length]; omega)]
  · rw [wipe_not hi, wipe_not hi, h.2 i fun z => hi (s i z)]
theorem Only.of_wipe {vs : List Nat} (a : St) : Only vs a (L2.wipe a vs) := ⟨wipe_length _ _, fun i hi => wipe_not hi⟩
def setDat (i : Nat) (d : D) : M Unit := fun s => some ({ s with ρ := s.ρ.set i (.dat d) }, .ok ())
/-- a target: the names' slots; for a tuple its parts -/
inductive Tg where
  | nm (i : Nat) | tup (ts : List Tg)
mutual
def Tg.slots : Tg → List Nat
  | .nm i => [i]
  | .tup ts => Tg.slotsL ts
def Tg.slotsL : List Tg → List Nat
  | [] => []
  | t :: ts => t.slots ++ Tg.slotsL ts
end
mutual
def Tg.put : Tg → D → M Unit
  | .nm i, d => setDat i d
  | .tup ts, .tuple ds => if ds.length = ts.length then Tg.putL ts ds else M.stuck
  | .tup _, _ => M.stuck
def Tg.putL : List Tg → List D → M Unit
  | [], _ => M.pure ()
  | t :: ts, d :: ds => M.bind (t.put d) fun _ => Tg.putL ts ds
  | _ :: _, [] => M.stuck
end
/-- the reading of a target -/
def tMG (K : PySem.W.Frag) (vs : List Nat) (p : D → M Unit) : TG := fun v σ H Q => ∃ ba O Hf s d, Rep K ba O Hf H σ s ∧ Rp K Hf d v ∧
  Fits (p d s) (fun _ s' => ∀ σ' H' Hf', Rep K ba O Hf' H' σ' s' → Same Hf Hf' → Only vs σ σ' → Q σ' H') fun _ _ => False
def tMGs (K : PySem.W.Frag) (vs : List Nat) (p : List D → M Unit) : TGs := fun xs σ H Q => ∃ ba O Hf s ds, Rep K ba O Hf H σ s ∧ RpL K Hf ds xs ∧
  Fits (p ds s) (fun _ s' => ∀ σ' H' Hf', Rep K ba O Hf' H' σ' s' → Same Hf Hf' → Only vs σ σ' → Q σ' H') fun _ _ => False
abbrev EG (X : Cx) (e : Expr) (t : Tg) : Prop := PG X e (tMG X.K t.slots t.put)
abbrev EGs (X : Cx) (es : List Expr) (ts : List Tg) : Prop := PGs X es fun xs σ H Q => xs.length = ts.length ∧ tMGs X.K (Tg.slotsL ts) (Tg.putL ts) xs σ H Q
section
variable {X : Cx} {pos : Pos}
theorem PG.conv {e : Expr} {t t' : TG} (h : PG X e t) (c : ∀ v σ H Q, t' v σ H Q → t v σ H Q) : PG X e t' := ⟨fun pins s σ H v u Q I r q => h.run pins s σ H v u Q I r (c v σ H Q q)⟩
theorem PGs.conv {e : List Expr} {t t' : TGs} (h : PGs X e t) (c : ∀ v σ H Q, t' v σ H Q → t v σ H Q) : PGs X e t' := ⟨fun pins s σ H v u Q I r q => h.run pins s σ H v u Q I r (c v σ H Q q)⟩
theorem eg_name {i : Nat} {x : Str} (hN : X.N.Nodup) (hi : X.N[i]? = some x) (hx : Loc X.env.scope x) (hf : X.fn x = true ∨ X.env.scope.names.lookup x = some .local := by first | exact .inl rfl | exact .inr rfl | assumption) : EG X (.Name x pos) (.nm i) :=
  PG.conv (pg_name hN hi hx hf) fun v σ H Q q => by
    obtain ⟨ba, O, Hf, s, d, R, p, F⟩ := q
    have F' : ∀ σ' H' Hf', Rep X.K ba O Hf' H' σ' { s with ρ := s.ρ.set i (.dat d) } → Same Hf Hf' → Only [i] σ σ' → Q σ' H' := by
      simp only [Tg.put, Tg.slots] at F
      exact F
    exact F' _ H Hf (R.store (sl := .dat d) ⟨v, rfl, p⟩ fun ds z => nomatch z) (Same.refl _) (Only.set σ)
theorem egs_nil : EGs X [] [] := PGs.conv pgs_nil fun vs σ H Q q => by
  obtain ⟨l, ba, O, Hf, s, ds, R, p, F⟩ := q
  refine ⟨List.length_eq_zero_iff.mp l, ?_⟩
  have F' : ∀ σ' H' Hf', Rep X.K ba O Hf' H' σ' s → Same Hf Hf' → Only (Tg.slotsL []) σ σ' → Q σ' H' := by
    simp only [Tg.putL] at F
    exact F
  exact F' σ H Hf R (Same.refl _) (Only.refl _ _)
theorem egs_cons {e : Expr} {es : List Expr} {t : Tg} {ts : List Tg} (h1 : EG X e t) (h2 : EGs X es ts)
    (hs : (assignEach (e :: es) X.env).map (·.2) = assign e X.env :: (assignEach es X.env).map (·.2) := by rfl) : EGs X (e :: es) (t :: ts) :=
  PGs.conv (pgs_cons h1 h2 hs) fun xs σ H Q q => by
    obtain ⟨l, ba, O, Hf, s, ds, R, p, F⟩ := q
    cases ds with
    | nil => simp only [Tg.putL] at F; exact F.elim
    | cons d ds =>
      obtain ⟨v, r, rfl, p1, p2⟩ := p.cons_inv
      simp only [Tg.putL] at F
      refine ⟨v, r, rfl, ba, O, Hf, s, d, R, p1, F.bind.imp (fun _ s1 F1 σ1 H1 Hf1 R1 e1 o1 => ?_) fun x s' q => q⟩
      refine ⟨by simpa using l, ba, O, Hf1, s1, ds, R1, RpL.mono e1 _ _ p2, F1.imp (fun _ s2 F2 σ2 H2 Hf2 R2 e2 o2 => ?_) fun x s' q => q⟩
      refine F2 σ2 H2 Hf2 R2 (Same.trans e1 e2) (Only.trans (o1.more fun i hi => ?_) (o2.more fun i hi => ?_))
      · simp only [Tg.slotsL]; exact List.mem_append_left _ hi
      · simp only [Tg.slotsL]; exact List.mem_append_right _ hi
theorem eg_tup {es : List Expr} {k : Nat} {ts : List Tg} (hc : X.calm = true) (h : EGs X es ts) (hn : (assignEach es X.env).length = ts.length := by rfl) (hst : (assignEach es X.env).findIdx? (·.1) = none := by rfl) : EG X (.Tuple es k pos) (.tup ts) :=
  PG.conv (pg_tup hc h hn hst) fun v σ H Q q => by
    obtain ⟨ba, O, Hf, s, d, R, p, F⟩ := q
    cases d with
    | tuple ds =>
      simp only [Tg.put] at F
      simp only [Rp] at p
      obtain ⟨a, vs, rfl, h1, h2⟩ := p
      by_cases hl : ds.length = ts.length
      · rw [if_pos hl] at F
        refine ⟨a, vs, rfl, Same.sqT R.reg.sub h1, by rw [h2.length]; exact hl, by rw [h2.length]; exact hl, ba, O, Hf, s, ds, R, h2, ?_⟩
        simp only [Tg.slots] at F
        exact F
      · rw [if_neg hl] at F
        exact F.elim
    | _ => simp only [Tg.put] at F; exact F.elim
end
/-! ### for, while -/
def loopF (p : D → M Unit) (mb : M Fl) : List D → M Fl
  | [] => M.pure .nx
  | d :: ds => M.bind (p d) fun _ => M.bind mb fun f => match f with
    | .nx => loopF p mb ds
    | .ct => loopF p mb ds
    | .bk => M.pure .nx
    | .rt r => M.pure (.rt r)
/-- a target raises nothing -/
def calm {α : Type} (m : M α) : M α := fun s => match m s with
  | some (s', .ok a) => some (s', .ok a)
  | _ => none
theorem Fits.calm {α : Type} {m : M α} {s : S} {ok : α → S → Prop} {ex ex' : Exn → S → Prop} (h : Fits (Pu.calm m s) ok ex) : Fits (m s) ok ex' := by
  unfold Pu.calm at h
  cases e : m s with
  | none => rw [e] at h; exact h
  | some q =>
    obtain ⟨s', r⟩ := q
    rw [e] at h
    cases r with
    | ok a => exact h
    | error x => exact h.elim
mutual
theorem Tg.put_ok : ∀ (t : Tg) (d : D) (s s' : S) (x : Exn), t.put d s ≠ some (s', .error x)
  | .nm i, d, s, s', x => by simp [Tg.put, setDat]
  | .tup ts, d, s, s', x => by
    cases d with
    | tuple ds =>
      simp only [Tg.put]
      by_cases hl : ds.length = ts.length
      · rw [if_pos hl]; exact Tg.putL_ok ts ds s s' x
      · rw [if_neg hl]; simp [M.stuck]
    | _ => simp [Tg.put, M.stuck]
theorem Tg.putL_ok : ∀ (ts : List Tg) (ds : List D) (s s' : S) (x : Exn), Tg.putL ts ds s ≠ some (s', .error x)
  | [], ds, s, s', x => by simp [Tg.putL, M.pure]
  | t :: ts, [], s, s', x => by simp [Tg.putL, M.stuck]
  | t :: ts, d :: ds, s, s', x => by
    simp only [Tg.putL, M.bind]
    cases e : t.put d s with
    | none => simp
    | some q =>
      obtain ⟨s1, r⟩ := q
      cases r with
      | ok a => exact Tg.putL_ok ts ds s1 s' x
      | error y => exact absurd e (Tg.put_ok t d s s1 y)
end
theorem Fits.put {t : Tg} {d : D} {s : S} {ok : Unit → S → Prop} {ex ex' : Exn → S → Prop} (h : Fits (t.put d s) ok ex) : Fits (t.put d s) ok ex' := by
  cases e : t.put d s with
  | none => rw [e] at h; exact h
  | some q =>
    obtain ⟨s', r⟩ := q
    rw [e] at h
    cases r with
    | ok a => exact h
    | error x => exact absurd e (Tg.put_ok t d s s' x)
def mFor (mi : M (List D)) (t : Tg) (mb : M Fl) : M Fl := M.bind mi fun ds => loopF t.put mb ds
def loopW (mt : M Bool) (mb : M Fl) : Nat → M Fl
  | 0 => M.stuck
  | n + 1 => M.bind mt fun b => if b then M.bind mb fun f => match f with
    | .nx => loopW mt mb n
    | .ct => loopW mt mb n
    | .bk => M.pure .nx
    | .rt r => M.pure (.rt r)
    else M.pure .nx
section
variable {X : Cx} {E : WX} {pos : Pos}
theorem es_for {tg iter : Expr} {body : List Stmt} {mi : M (List D)} {t : Tg} {mb : M Fl} (hp : PassesOwn (model X.prog X.w) X.A X.env X.xe) (hc : X.calm = true) (hi : EI X E tg iter mi) (hg : EG X tg t) (hb : ESs X E body mb)
    (hs : ∀ x, foldedSetIterable iter X.env x = pure x := by intro _; rfl) : ES X E (.For tg iter body [] pos) (mFor mi t mb) :=
  PS.conv (ps_for hp hc hi hg hb hs) fun D σ H q => by
    obtain ⟨ba, O, Hf, s, R0, F⟩ := q
    refine ⟨ba, O, Hf, s, R0, tMS.bind F fun ds s1 F1 J H1 Hf1 R1 e1 it => ?_⟩
    refine ⟨fun i m σ H => ∃ Hf2 s2, Rep X.K ba O Hf2 H σ s2 ∧ Same Hf1 Hf2 ∧ m = ds.length - i ∧ i ≤ ds.length ∧
      Fits (loopF t.put mb (ds.drop i) s2) (fun fl s' => ∀ σ' H' Hf', Rep X.K ba O Hf' H' σ' s' → Same Hf2 Hf' → EndOk X.K ba O Hf' H' σ' s' D fl) (ExS X.K X.mg E ba O Hf2), ⟨ds.length, Hf1, s1, R1, Same.refl _, rfl, Nat.zero_le _, end_mono e1 F1⟩, ?_⟩
    rintro i m σ2 H2 ⟨Hf2, s2, R2, e2, rfl, hl, F2⟩
    have it2 := it.mono e2
    by_cases hi : i < ds.length
    · have ed : ds.drop i = ds[i] :: ds.drop (i + 1) := List.drop_eq_getElem_cons hi
      rw [ed] at F2
      unfold loopF at F2
      refine .inr ⟨it2.go i H2 R2.reg.sub hi, fun σ' H' => ∃ Hf3 s3, Rep X.K ba O Hf3 H' σ' s3 ∧ Same Hf2 Hf3 ∧
        Fits (loopF t.put mb (ds.drop (i + 1)) s3) (fun fl s' => ∀ σ' H' Hf', Rep X.K ba O Hf' H' σ' s' → Same Hf3 Hf' → EndOk X.K ba O Hf' H' σ' s' D fl) (ExS X.K X.mg E ba O Hf3), fun σ' H' n => ?_, fun x H' y => ?_⟩
      · obtain ⟨Hf3, s3, R3, e3, F3⟩ := n
        exact ⟨ds.length - (i + 1), by omega, Hf3, s3, R3, Same.trans e2 e3, rfl, hi, F3⟩
      · obtain ⟨Hf3, e3, R3, p3⟩ := R2.item (it2.yld i H2 x H' ds[i] R2.reg.sub (List.getElem?_eq_getElem hi) y)
        refine ⟨ba, O, Hf3, s2, ds[i], R3, p3, (Fits.put F2.bind).imp (fun _ s4 F4 σ4 H4 Hf4 R4 e4 _ => ?_) fun x s' q => q⟩
        have e24 : Same Hf2 Hf4 := Same.trans e3 e4
        refine ⟨ba, O, Hf4, s4, R4, F4.bind.imp (fun fl s5 F5 σ5 H5 Hf5 R5 e5 => ?_) fun x s' q => ExS.mono e24 q⟩
        have e25 : Same Hf2 Hf5 := Same.trans e24 e5
        cases fl with
        | nx => exact ⟨Hf5, s5, R5, e25, end_mono e25 F5⟩
        | ct => exact ⟨Hf5, s5, R5, e25, end_mono e25 F5⟩
        | bk => exact F5 σ5 H5 Hf5 R5 e25
        | rt r => exact F5 σ5 H5 Hf5 R5 e25
    · have ed : ds.drop i = [] := List.drop_eq_nil_of_le (by omega)
      rw [ed] at F2
      exact .inl ⟨it2.stop i H2 R2.reg.sub (by omega), F2 σ2 H2 Hf2 R2 (Same.refl _)⟩
theorem es_while {c : Expr} {body : List Stmt} {mt : M Bool} {mb : M Fl} (fuel : Nat) (hp : PassesOwn (model X.prog X.w) X.A X.env X.xe) (hc : ET X E c mt) (hb : ESs X E body mb) : ES X E (.While c body [] pos) (loopW mt mb fuel) :=
  PS.conv (ps_while hp hc hb) fun D σ H q => by
    obtain ⟨ba, O, Hf, s, R0, F⟩ := q
    refine ⟨fun m σ H => ∃ Hf2 s2, Rep X.K ba O Hf2 H σ s2 ∧ Same Hf Hf2 ∧
      Fits (loopW mt mb m s2) (fun fl s' => ∀ σ' H' Hf', Rep X.K ba O Hf' H' σ' s' → Same Hf2 Hf' → EndOk X.K ba O Hf' H' σ' s' D fl) (ExS X.K X.mg E ba O Hf2), ⟨fuel, Hf, s, R0, Same.refl _, F⟩, ?_⟩
    rintro m σ2 H2 ⟨Hf2, s2, R2, e2, F2⟩
    cases m with
    | zero => exact F2.elim
    | succ m =>
      unfold loopW at F2
      refine ⟨ba, O, Hf2, s2, R2, tMS.bind F2 fun b s3 F3 H3 Hf3 R3 e3 => ?_⟩
      cases b with
      | true =>
        refine iteT ⟨fun σ' H' => ∃ Hf4 s4, Rep X.K ba O Hf4 H' σ' s4 ∧ Same Hf Hf4 ∧
          Fits (loopW mt mb m s4) (fun fl s' => ∀ σ' H' Hf', Rep X.K ba O Hf' H' σ' s' → Same Hf4 Hf' → EndOk X.K ba O Hf' H' σ' s' D fl) (ExS X.K X.mg E ba O Hf4), fun σ' H' n => ⟨m, Nat.lt_succ_self _, n⟩, ?_⟩
        refine ⟨ba, O, Hf3, s3, R3, (Fits.bind F3).imp (fun fl s5 F5 σ5 H5 Hf5 R5 e5 => ?_) fun x s' q => ExS.mono e3 q⟩
        have e25 : Same Hf2 Hf5 := Same.trans e3 e5
        cases fl with
        | nx => exact ⟨Hf5, s5, R5, Same.trans e2 e25, end_mono e25 F5⟩
        | ct => exact ⟨Hf5, s5, R5, Same.trans e2 e25, end_mono e25 F5⟩
        | bk => exact F5 σ5 H5 Hf5 R5 e25
        | rt r => exact F5 σ5 H5 Hf5 R5 e25
      | false => exact iteF (F3 σ2 H3 Hf3 R3 e3)
/-! ### name op= value -/
def mAug (i : Nat) (f : D → D → Option Rs) (m : M Rv) : M Fl := fun s => match s.ρ[i]? with
  | some (.dat d1) => (M.bind m fun r2 => M.bind (peek r2) fun d2 => M.bind (M.lift (f d1 d2)) fun r => M.bind (mStore i r.rv) fun _ => M.pure .nx) s
  | _ => none
theorem es_aug {i : Nat} {x : Str} {e : Expr} {op : Operator} {r : R2} {f : D → D → Option Rs} {m : M Rv} {pos' : Pos} (hN : X.N.Nodup) (hi : X.N[i]? = some x) (hx : Loc X.env.scope x) (ho : OpR X (inplaceOp op) r) (hop : Op2 X.K r f) (he : EV X E e m)
    (hf : X.fn x = true ∨ X.env.scope.names.lookup x = some .local := by first | exact .inl rfl | exact .inr rfl | assumption) : ES X E (.AugAssign (.Name x pos') op e pos) (mAug i f m) :=
  PS.conv (ps_aug hN hi hx he ho hf) fun D σ H q => by
    obtain ⟨ba, O, Hf, s, R0, F⟩ := q
    unfold mAug at F
    cases es : s.ρ[i]? with
    | none => rw [es] at F; exact F.elim
    | some sl =>
      cases sl with
      | dat d1 =>
        rw [es] at F
        obtain ⟨xv, e1, v1, rfl, p1⟩ := R0.at es
        refine ⟨v1, e1, ba, O, Hf, s, R0, tMS.bind F fun r2 s2 F2 v2 H2 Hf2 R2 e2 ok2 => ?_⟩
        obtain ⟨d2, F3, b2⟩ := peek_now R2 ok2 F2.bind
        obtain ⟨res, er, F4⟩ := F3.bind.lift
        refine hop Hf2 H2 d1 d2 v1 v2 res _ R2.reg.sub (.inl (Rp.mono e2 _ _ p1)) b2 er fun v H' g => ?_
        obtain ⟨Hf3, e3, R3, ok3⟩ := R2.got g
        obtain ⟨s4, Hf4, F5, e4, R4⟩ := mStore_ok R3 ok3 F4.bind
        exact F5 _ H' Hf4 R4 (Same.trans e2 (Same.trans e3 e4))
      | no => rw [es] at F; exact F.elim
      | own _ => rw [es] at F; exact F.elim
      | bag => rw [es] at F; exact F.elim
/-! ### a name's own list -/
theorem Rep.write {K : PySem.W.Frag} {ba : Option Addr} {O Hf H : Hp} {σ : St} {s : S} {i : Nat} {ds ds' : List D} {a : Addr} {vs' : List V} (R : Rep K ba O Hf H σ s) (h : s.ρ[i]? = some (.own ds)) (hv : σ[i]? = some (some (.ref a))) (hr : RpL K Hf ds' vs') :
    Rep K ba O Hf (upd H a (.lst vs')) σ { s with ρ := s.ρ.set i (.own ds') } := by
  obtain ⟨b, e, vs, h1, h2, h3, h4, h5⟩ := R.slot i _ _ h hv
  cases e
  have hi : i < s.ρ.length := (List.getElem?_eq_some_iff.mp h).1
  refine ⟨⟨fun c o e => ?_, fun c o e => ?_, R.reg.dis, fun c e => ?_⟩, by rw [List.length_set]; exact R.len, fun j sl x e1 e2 => ?_, fun j k es fs x ne e1 e2 e3 => ?_⟩
  · have : c ≠ a := fun z => by rw [z, h2] at e; cases e
    rw [upd_ne this]; exact R.reg.sub c o e
  · have : c ≠ a := fun z => by rw [z, h3] at e; cases e
    rw [upd_ne this]; exact R.reg.out c o e
  · obtain ⟨⟨c', k1, k2⟩, k3, k4⟩ := R.reg.bag c e
    have : c ≠ a := fun z => h4 (z ▸ e)
    exact ⟨⟨c', by rw [upd_ne this]; exact k1, k2⟩, k3, k4⟩
  · by_cases ji : i = j
    · subst ji
      rw [List.getElem?_set_self hi] at e1
      cases e1
      rw [hv] at e2
      cases e2
      exact ⟨a, rfl, vs', upd_same, h2, h3, h4, hr⟩
    · rw [List.getElem?_set_ne ji] at e1
      have q := R.slot j sl x e1 e2
      cases sl with
      | no => trivial
      | dat d => exact q
      | own es =>
        obtain ⟨b, q1, ws, k1, k2⟩ := q
        subst q1
        have : b ≠ a := fun z => by
          subst z
          exact R.uni i j _ _ _ ji h e1 hv e2
        exact ⟨b, rfl, ws, by rw [upd_ne this]; exact k1, k2⟩
      | bag => exact q
  · by_cases ji : i = j
    · subst ji
      rw [List.getElem?_set_self hi] at e1
      cases e1
      rw [List.getElem?_set_ne ne] at e2
      exact R.uni i k _ _ _ ne h e2 e3
    · rw [List.getElem?_set_ne ji] at e1
      by_cases ki : i = k
      · subst ki
        exact R.uni j i _ _ _ ne e1 h e3
      · rw [List.getElem?_set_ne ki] at e2
        exact R.uni j k es fs x ne e1 e2 e3
def isOwn (i : Nat) : M Unit := fun s => match s.ρ[i]? with
  | some (.own _) => some (s, .ok ())
  | _ => none
def setOwn (i : Nat) (f : List D → Option (List D × D)) : M Rv := fun s => match s.ρ[i]? with
  | some (.own ds) => match f ds with
    | some (ds', r) => some ({ s with ρ := s.ρ.set i (.own ds') }, .ok (.dat r))
    | none => none
  | _ => none
theorem isOwn_ok {K : PySem.W.Frag} {ba : Option Addr} {O Hf H : Hp} {σ : St} {s : S} {i : Nat} {ok : Unit → S → Prop} {ex : Exn → S → Prop} (R : Rep K ba O Hf H σ s) (F : Fits (isOwn i s) ok ex) : ok () s ∧ ∃ ds a, s.ρ[i]? = some (.own ds) ∧ σ[i]? = some (some (.ref a)) ∧ OwnAt K ba O Hf H ds a := by
  unfold isOwn at F
  cases e : s.ρ[i]? with
  | none => rw [e] at F; exact F.elim
  | some sl =>
    rw [e] at F
    cases sl with
    | own ds =>
      obtain ⟨x, e1, a, rfl, p⟩ := R.at e
      exact ⟨F, ds, a, rfl, e1, p⟩
    | no => exact F.elim
    | dat _ => exact F.elim
    | bag => exact F.elim
/-- x.append(e) -/
def mAppend (i : Nat) (m : M Rv) : M Rv := M.bind (isOwn i) fun _ => M.bind m fun r => M.bind (retain r) fun d => setOwn i fun ds => if ds.length < sizeLine then some (ds ++ [d], .none) else none
/-- x.extend(e), e a list that nobody else holds -/
def mExtend (i : Nat) (m : M Rv) : M Rv := M.bind (isOwn i) fun _ => M.bind m fun r => match r with
  | .fresh es => setOwn i fun ds => if ds.length + es.length ≤ sizeLine then some (ds ++ es, .none) else none
  | _ => M.stuck
/-- x.pop() -/
def mPop (i : Nat) : M Rv := M.bind (isOwn i) fun _ => setOwn i fun ds => ds.getLast?.map fun d => (ds.dropLast, d)
theorem setOwn_inv {i : Nat} {f : List D → Option (List D × D)} {s : S} {ok : Rv → S → Prop} {ex : Exn → S → Prop} (F : Fits (setOwn i f s) ok ex) : ∃ ds ds' r, s.ρ[i]? = some (.own ds) ∧ f ds = some (ds', r) ∧ ok (.dat r) { s with ρ := s.ρ.set i (.own ds') } := by
  unfold setOwn at F
  cases e : s.ρ[i]? with
  | none => rw [e] at F; exact F.elim
  | some sl =>
    rw [e] at F
    cases sl with
    | own ds =>
      cases e2 : f ds with
      | none => simp only [e2] at F; exact F.elim
      | some q =>
        obtain ⟨ds', r⟩ := q
        simp only [e2] at F
        exact ⟨ds, ds', r, rfl, e2, F⟩
    | no => exact F.elim
    | dat _ => exact F.elim
    | bag => exact F.elim
theorem ty_own {K : PySem.W.Frag} {H : Hp} {a : Addr} {vs : List V} (h : H a = some (.lst vs)) : tyV K "list" (.ref a) H := .inl ⟨rfl, _, .inl (.inl h)⟩
section
variable {i : Nat} {m : M Rv}
theorem ev_append {c : Expr} (h : PE X c (tBM X.K "list" rAppend (tVar i) (tCons (tM X.K X.mg E m) tNil))) : EV X E c (mAppend i m) :=
  PE.conv h fun σ H Q q => by
    obtain ⟨ba, O, Hf, s, R0, F⟩ := q
    obtain ⟨F1, ds0, a, h1, h2, vs0, h3, _⟩ := isOwn_ok R0 F.bind
    refine ⟨_, h2, ty_own h3, ba, O, Hf, s, R0, F1.bind.imp (fun r s2 F2 v H2 Hf2 R2 e2 ok2 => ?_) fun x s' q => q⟩
    obtain ⟨d, s3, Hf3, F3, e3, R3, p3⟩ := retain_ok R2 ok2 F2.bind
    obtain ⟨ds, ds', r, k1, k2, F4⟩ := setOwn_inv F3
    obtain ⟨b, eb, vs, k3, k4, k5, k6, k7⟩ := R3.slot i _ _ k1 h2
    cases eb
    by_cases hl : ds.length < sizeLine
    · simp only [if_pos hl, Option.some.injEq, Prod.mk.injEq] at k2
      obtain ⟨rfl, rfl⟩ := k2
      refine ⟨a, vs, v, rfl, rfl, k3, by rw [k7.length]; exact hl, ?_⟩
      exact F4 .non _ Hf3 (R3.write k1 h2 (k7.append (RpL.cons p3 RpL.nil))) (Same.trans e2 e3) (show Rp X.K Hf3 .none .non by simp only [Rp])
    · simp only [if_neg hl] at k2
      cases k2
theorem ev_extend {c : Expr} (h : PE X c (tBM X.K "list" rExtend (tVar i) (tCons (tM X.K X.mg E m) tNil))) : EV X E c (mExtend i m) :=
  PE.conv h fun σ H Q q => by
    obtain ⟨ba, O, Hf, s, R0, F⟩ := q
    obtain ⟨F1, ds0, a, h1, h2, vs0, h3, _⟩ := isOwn_ok R0 F.bind
    refine ⟨_, h2, ty_own h3, ba, O, Hf, s, R0, F1.bind.imp (fun r s2 F2 v H2 Hf2 R2 e2 ok2 => ?_) fun x s' q => q⟩
    cases r with
    | fresh es =>
      obtain ⟨c, rfl, ⟨ws, w1, _, _, _, w2⟩, _⟩ := ok2
      obtain ⟨ds, ds', r, k1, k2, F4⟩ := setOwn_inv F2
      obtain ⟨b, eb, vs, k3, k4, k5, k6, k7⟩ := R2.slot i _ _ k1 h2
      cases eb
      by_cases hl : ds.length + es.length ≤ sizeLine
      · simp only [if_pos hl, Option.some.injEq, Prod.mk.injEq] at k2
        obtain ⟨rfl, rfl⟩ := k2
        refine ⟨a, c, vs, ws, rfl, rfl, k3, w1, by rw [k7.length, w2.length]; exact hl, ?_⟩
        exact F4 .non _ Hf2 (R2.write k1 h2 (k7.append w2)) e2 (show Rp X.K Hf2 .none .non by simp only [Rp])
      · simp only [if_neg hl] at k2
        cases k2
    | _ => exact F2.elim
theorem RpL.last {K : PySem.W.Frag} {H : Hp} {ds : List D} {vs : List V} {d : D} (h : RpL K H ds vs) (e : ds.getLast? = some d) : ∃ v, vs[vs.length - 1]? = some v ∧ Rp K H d v := by
  rw [List.getLast?_eq_getElem?] at e
  obtain ⟨v, e1, r⟩ := h.get e
  exact ⟨v, by rw [h.length]; exact e1, r⟩
theorem RpL.dropLast {K : PySem.W.Frag} {H : Hp} {ds : List D} {vs : List V} (h : RpL K H ds vs) : RpL K H ds.dropLast vs.dropLast := by
  rw [List.dropLast_eq_take, List.dropLast_eq_take, h.length]
  exact h.take _
theorem ev_pop {c : Expr} (h : PE X c (tBM0 X.K "list" rPop (tVar i))) : EV X E c (mPop i) :=
  PE.conv h fun σ H Q q => by
    obtain ⟨ba, O, Hf, s, R0, F⟩ := q
    obtain ⟨F1, ds0, a, h1, h2, vs0, h3, _⟩ := isOwn_ok R0 F.bind
    obtain ⟨ds, ds', r, k1, k2, F4⟩ := setOwn_inv F1
    obtain ⟨b, eb, vs, k3, k4, k5, k6, k7⟩ := R0.slot i _ _ k1 h2
    cases eb
    obtain ⟨d, ed, e2⟩ := Option.map_eq_some_iff.mp k2
    cases e2
    obtain ⟨v, ev, rv⟩ := k7.last ed
    refine ⟨_, h2, ty_own k3, a, vs, v, rfl, rfl, k3, ev, ?_⟩
    exact F4 v _ Hf (R0.write k1 h2 k7.dropLast) (Same.refl _) rv
end
end
end Pu
/-! Pu9: list comprehensions. -/
namespace Pu
open PySem PySem.Spec PyProof.Rows L2
/-- the slots of a block's own names forgotten -/
def wipeS (ρ : List Sl) : List Nat → List Sl
  | [] => ρ
  | v :: vs => (wipeS ρ vs).set v .no
theorem wipeS_length (ρ : List Sl) : ∀ vs, (wipeS ρ vs).length = ρ.length
  | [] => rfl
  | v :: vs => by unfold wipeS; rw [List.length_set, wipeS_length ρ vs]
theorem wipeS_not {ρ : List Sl} {i : Nat} : ∀ {vs : List Nat}, i ∉ vs → (wipeS ρ vs)[i]? = ρ[i]?
  | [], _ => rfl
  | v :: vs, h => by
    unfold wipeS
    have h1 : v ≠ i := fun z => h (by rw [z]; exact List.mem_cons_self)
    rw [List.getElem?_set_ne h1]
    exact wipeS_not fun z => h (List.mem_cons_of_mem _ z)
theorem wipeS_in {ρ : List Sl} {i : Nat} : ∀ {vs : List Nat}, i ∈ vs → i < ρ.length → (wipeS ρ vs)[i]? = some .no
  | v :: vs, h, hl => by
    unfold wipeS
    by_cases e : v = i
    · subst e
      rw [List.getElem?_set_self (by rw [wipeS_length]; exact hl)]
    · rw [List.getElem?_set_ne e]
      rcases (List.mem_cons.mp h) with z | z
      · exact absurd z.symm e
      · exact wipeS_in z hl
/-- the slots of a block's own names as they were ahead of it -/
def backS (ρ₀ ρ : List Sl) : List Nat → List Sl
  | [] => ρ
  | v :: vs => (backS ρ₀ ρ vs).set v (ρ₀.getD v .no)
theorem backS_length (ρ₀ ρ : List Sl) : ∀ vs, (backS ρ₀ ρ vs).length = ρ.length
  | [] => rfl
  | v :: vs => by unfold backS; rw [List.length_set, backS_length ρ₀ ρ vs]
theorem backS_not {ρ₀ ρ : List Sl} {i : Nat} : ∀ {vs : List Nat}, i ∉ vs → (backS ρ₀ ρ vs)[i]? = ρ[i]?
  | [], _ => rfl
  | v :: vs, h => by
    unfold backS
    have h1 : v ≠ i := fun z => h (by rw [z]; exact List.mem_cons_self)
    rw [List.getElem?_set_ne h1]
    exact backS_not fun z => h (List.mem_cons_of_mem _ z)
theorem backS_in {ρ₀ ρ : List Sl} {i : Nat} : ∀ {vs : List Nat}, i ∈ vs → i < ρ.length → (backS ρ₀ ρ vs)[i]? = some (ρ₀.getD i .no)
  | v :: vs, h, hl => by
    unfold backS
    by_cases e : v = i
    · subst e
      rw [List.getElem?_set_self (by rw [backS_length]; exact hl)]
    · rw [List.getElem?_set_ne e]
      rcases (List.mem_cons.mp h) with z | z
      · exact absurd z.symm e
      · exact backS_in z hl
/-- no own list among them -/
def freeS (ρ : List Sl) (vs : List Nat) : Bool := vs.all fun v => match ρ.getD v .no with
  | .own _ => false
  | _ => true
section
variable {K : PySem.W.Frag} {ba : Option Addr} {O O' Hf H : Hp} {σ : St} {s s' : S} {vs : List Nat}
theorem Rep.wipe (R : Rep K ba O Hf H σ s) : Rep K ba O Hf H (L2.wipe σ vs) { s with ρ := wipeS s.ρ vs } := by
  have hl : ∀ {i : Nat} {sl : Sl} {x : Option V}, (wipeS s.ρ vs)[i]? = some sl → (L2.wipe σ vs)[i]? = some x → (i ∈ vs ∧ sl = .no) ∨ (i ∉ vs ∧ s.ρ[i]? = some sl ∧ σ[i]? = some x) := fun {i sl x} e1 e2 => by
    by_cases hi : i ∈ vs
    · have : i < s.ρ.length := by
        have := (List.getElem?_eq_some_iff.mp e1).1
        rwa [wipeS_length] at this
      rw [wipeS_in hi this] at e1
      exact .inl ⟨hi, (Option.some.inj e1).symm⟩
    · rw [wipeS_not hi] at e1
      rw [wipe_not hi] at e2
      exact .inr ⟨hi, e1, e2⟩
  refine ⟨R.reg, by rw [wipeS_length, wipe_length]; exact R.len, fun i sl x e1 e2 => ?_, fun i j ds es x ne e1 e2 e3 => ?_⟩
  · rcases hl e1 e2 with ⟨_, rfl⟩ | ⟨_, k1, k2⟩
    · trivial
    · exact R.slot i sl x k1 k2
  · rcases hl e1 e3 with ⟨_, z⟩ | ⟨hi, k1, k2⟩
    · cases z
    · have hj : j ∉ vs := fun z => by
        have : j < s.ρ.length := by
          have := (List.getElem?_eq_some_iff.mp e2).1
          rwa [wipeS_length] at this
        rw [wipeS_in z this] at e2
        cases e2
      rw [wipeS_not hj] at e2
      rw [wipe_not hj]
      exact R.uni i j ds es x ne k1 e2 k2
/-- behind a block -/
theorem Rep.unwipe {Hf₀ H₀ : Hp} (R₀ : Rep K ba O Hf₀ H₀ σ s) (f : freeS s.ρ vs = true) (R : Rep K ba O Hf H (L2.wipe σ vs) s') (e : Same Hf₀ Hf) : Rep K ba O Hf H σ { s' with ρ := backS s.ρ s'.ρ vs } := by
  have ln : s'.ρ.length = σ.length := by rw [R.len, wipe_length]
  have hl : ∀ {i : Nat} {sl : Sl}, (backS s.ρ s'.ρ vs)[i]? = some sl → (i ∈ vs ∧ s.ρ[i]? = some sl ∧ ∀ ds, sl ≠ .own ds) ∨ (i ∉ vs ∧ s'.ρ[i]? = some sl) := fun {i sl} e1 => by
    by_cases hi : i ∈ vs
    · have hl1 : i < s'.ρ.length := by
        have := (List.getElem?_eq_some_iff.mp e1).1
        rwa [backS_length] at this
      have hl0 : i < s.ρ.length := by rw [R₀.len, ← ln]; exact hl1
      rw [backS_in hi hl1] at e1
      have e2 : s.ρ[i]? = some sl := by
        rw [List.getD_eq_getElem?_getD, List.getElem?_eq_getElem hl0] at e1
        rw [List.getElem?_eq_getElem hl0]
        exact e1
      refine .inl ⟨hi, e2, fun ds z => ?_⟩
      subst z
      unfold freeS at f
      rw [List.all_eq_true] at f
      have q := f i hi
      rw [Option.some.inj e1] at q
      cases q
    · rw [backS_not hi] at e1
      exact .inr ⟨hi, e1⟩
  refine ⟨R.reg, by rw [backS_length]; exact ln, fun i sl x e1 e2 => ?_, fun i j ds es x ne e1 e2 e3 => ?_⟩
  · rcases hl e1 with ⟨_, k1, k2⟩ | ⟨hi, k1⟩
    · have q := R₀.slot i sl x k1 e2
      cases sl with
      | no => trivial
      | dat d => obtain ⟨w, q1, q2⟩ := q; exact ⟨w, q1, Rp.mono e _ _ q2⟩
      | own es => exact absurd rfl (k2 es)
      | bag => exact q
    · exact R.slot i sl x k1 (by rw [wipe_not hi]; exact e2)
  · rcases hl e1 with ⟨_, _, k2⟩ | ⟨hi, k1⟩
    · exact absurd rfl (k2 ds)
    · rcases hl e2 with ⟨_, _, k2⟩ | ⟨hj, k3⟩
      · exact absurd rfl (k2 es)
      · have q := R.uni i j ds es x ne k1 k3 (by rw [wipe_not hi]; exact e3)
        rwa [wipe_not hj] at q
/-- callers hold one more -/
theorem Rep.outer {a : Addr} {o : HO} (R : Rep K ba O Hf H σ s) (h : H a = some o) (hf : Hf a = none) (hb : ba ≠ some a) (hn : ∀ (i : Nat) ds, s.ρ[i]? = some (.own ds) → σ[i]? ≠ some (some (.ref a))) : Rep K ba (upd O a o) Hf H σ s := by
  refine ⟨⟨R.reg.sub, Same.updF R.reg.out h, fun b q => ?_, fun b e => ?_⟩, R.len, fun i sl x e1 e2 => ?_, R.uni⟩
  · have : b ≠ a := fun z => q (z ▸ hf)
    rw [upd_ne this]; exact R.reg.dis b q
  · obtain ⟨k1, k2, k3⟩ := R.reg.bag b e
    have : b ≠ a := fun z => hb (z ▸ e)
    exact ⟨k1, k2, by rw [upd_ne this]; exact k3⟩
  · have q := R.slot i sl x e1 e2
    cases sl with
    | no => trivial
    | dat d => exact q
    | own es =>
      obtain ⟨b, rfl, ws, k1, k2, k3, k4⟩ := q
      have : b ≠ a := fun z => by subst z; exact hn i es e1 e2
      exact ⟨b, rfl, ws, k1, k2, by rw [upd_ne this]; exact k3, k4⟩
    | bag => exact q
theorem Rep.less (R : Rep K ba O' Hf H σ s) (e : Same O O') : Rep K ba O Hf H σ s := by
  have nn : ∀ {a : Addr}, O' a = none → O a = none := fun {a} h => by
    cases q : O a with
    | none => rfl
    | some x => rw [e _ _ q] at h; cases h
  refine ⟨⟨R.reg.sub, Same.trans e R.reg.out, fun b q => nn (R.reg.dis b q), fun b z => ?_⟩, R.len, fun i sl x e1 e2 => ?_, R.uni⟩
  · obtain ⟨k1, k2, k3⟩ := R.reg.bag b z
    exact ⟨k1, k2, nn k3⟩
  · have q := R.slot i sl x e1 e2
    cases sl with
    | no => trivial
    | dat d => exact q
    | own es => obtain ⟨b, q1, ws, k1, k2, k3, k4⟩ := q; exact ⟨b, q1, ws, k1, k2, nn k3, k4⟩
    | bag => exact q
/-- an object that is held by the callers of this state is written -/
theorem Rep.change {a : Addr} {o o' : HO} (R : Rep K ba (upd O a o) Hf H σ s) : Rep K ba (upd O a o') Hf (upd H a o') σ s := by
  have hf : Hf a = none := by
    cases q : Hf a with
    | none => rfl
    | some x =>
      have z := R.reg.dis a (by rw [q]; simp)
      rw [upd_same] at z; cases z
  refine ⟨⟨fun b x e => ?_, fun b x e => ?_, fun b q => ?_, fun b e => ?_⟩, R.len, fun i sl x e1 e2 => ?_, R.uni⟩
  · have : b ≠ a := fun z => by rw [z, hf] at e; cases e
    rw [upd_ne this]; exact R.reg.sub b x e
  · by_cases z : b = a
    · subst z
      rw [upd_same] at e ⊢
      exact e
    · rw [upd_ne z] at e ⊢
      exact R.reg.out b x (by rw [upd_ne z]; exact e)
  · have : b ≠ a := fun z => q (z ▸ hf)
    have q2 := R.reg.dis b q
    rw [upd_ne this] at q2 ⊢
    exact q2
  · obtain ⟨⟨c, k1, k2⟩, k3, k4⟩ := R.reg.bag b e
    have : b ≠ a := fun z => by rw [z, upd_same] at k4; cases k4
    rw [upd_ne this] at k4
    exact ⟨⟨c, by rw [upd_ne this]; exact k1, k2⟩, k3, by rw [upd_ne this]; exact k4⟩
  · have q := R.slot i sl x e1 e2
    cases sl with
    | no => trivial
    | dat d => exact q
    | own es =>
      obtain ⟨b, rfl, ws, k1, k2, k3, k4⟩ := q
      have : b ≠ a := fun z => by rw [z, upd_same] at k3; cases k3
      rw [upd_ne this] at k3
      exact ⟨b, rfl, ws, by rw [upd_ne this]; exact k1, k2, by rw [upd_ne this]; exact k3, k4⟩
    | bag => exact q
end
/-! ### one clause -/
def W0 : WX := fun _ _ _ _ => False
/-- a block's turns: acc is what has been made -/
def loopC (vs : List Nat) (p : D → M Unit) (mt : M Bool) (me : M Rv) : List D → List D → M (List D)
  | [], acc => M.pure acc
  | d :: ds, acc => M.bind (p d) fun _ => M.bind (calm mt) fun b => if b then M.bind (calm me) fun r => M.bind (retain r) fun y => fun s =>
      if acc.length < sizeLine then loopC vs p mt me ds (acc ++ [y]) { s with ρ := wipeS s.ρ vs } else none
    else fun s => loopC vs p mt me ds acc { s with ρ := wipeS s.ρ vs }
def mComp (vs : List Nat) (mi : M (List D)) (t : Tg) (mt : M Bool) (me : M Rv) : M Rv := M.bind mi fun ds => fun s => if freeS s.ρ vs then
    (M.bind (loopC vs t.put mt me ds []) fun acc => fun s' => some ({ s' with ρ := backS s.ρ s'.ρ vs }, .ok (.fresh acc))) { s with ρ := wipeS s.ρ vs }
  else none
/-- no tests -/
def mYes : M Bool := M.pure true
theorem wipe_twice (σ : St) (vs : List Nat) : L2.wipe (L2.wipe σ vs) vs = L2.wipe σ vs := (Only.of_wipe (vs := vs) σ).wipe fun _ h => h
theorem Fits.no {α : Type} {o : Option (S × Except Exn α)} {ok : α → S → Prop} {ex ex' : Exn → S → Prop} (h : Fits o ok ex) (n : ∀ s x, o ≠ some (s, .error x)) : Fits o ok ex' := by
  cases o with
  | none => exact h
  | some q =>
    obtain ⟨s', r⟩ := q
    cases r with
    | ok a => exact h
    | error x => exact absurd rfl (n s' x)
section
variable {X : Cx} {E : WX}
theorem lc_conv {K : PySem.W.Frag} {mg : Str → Option Value} {vs : List Nat} {mi : M (List D)} {t : Tg} {mt : M Bool} {me : M Rv} {tt : TT} {σ : St} {H : Hp} {Q : VK} (hv : ∀ i ∈ t.slots, i ∈ vs) (hsub : ∀ σ H Q', tMT K mg W0 mt σ H Q' → tt σ H Q')
    (q : tM K mg E (mComp vs mi t mt me) σ H Q) : tLc (iM K mg E mi) (tMG K t.slots t.put) tt (tM K mg W0 me) vs σ H Q := by
  obtain ⟨ba, O, Hf, s, R0, F⟩ := q
  refine ⟨ba, O, Hf, s, R0, F.bind.imp (fun ds s1 F1 J H1 Hf1 R1 e1 it => ?_) fun x s' q => q⟩
  intro D hD
  by_cases hfr : freeS s1.ρ vs = true
  · simp only [hfr, if_true] at F1
    obtain ⟨f1, f2, f3⟩ := R1.reg.free hD
    -- behind the turns
    let Post : List PyData → S → Prop := fun acc s' => ∀ v H' Hf', Rep K ba O Hf' H' σ { s' with ρ := backS s1.ρ s'.ρ vs } → Same Hf1 Hf' → RvOk K ba O Hf' H' σ { s' with ρ := backS s1.ρ s'.ρ vs } (.fresh acc) v → Q v H'
    have F2 : Fits (loopC vs t.put mt me ds [] { s1 with ρ := wipeS s1.ρ vs }) Post fun _ _ => True :=
      F1.bind.imp (fun acc s' h v H' Hf' R' e' ok' => h v H' Hf' R' (Same.trans e1 e') ok') fun _ _ _ => trivial
    refine ⟨fun i m H => ∃ Hf2 s2 acc vsA, Rep K ba (upd O D (.lst vsA)) Hf2 H (L2.wipe σ vs) s2 ∧ RpL K Hf2 acc vsA ∧ Same Hf1 Hf2 ∧ m = ds.length - i ∧ i ≤ ds.length ∧ Fits (loopC vs t.put mt me (ds.drop i) acc s2) Post fun _ _ => True,
      ⟨ds.length, Hf1, _, [], [], ?_, RpL.nil, Same.refl _, rfl, Nat.zero_le _, F2⟩, ?_⟩
    · refine ((R1.grow (o := .lst []) hD).wipe (vs := vs)).outer upd_same f1 f3 fun i es e2 e3 => ?_
      have R1g := (R1.grow (o := .lst []) hD).wipe (vs := vs)
      obtain ⟨x, e4, b, rfl, ws, k1, k2, k3, k4⟩ := R1g.at e2
      rw [e4] at e3
      cases e3
      obtain ⟨x', e5, b', rfl, ws', j1, _⟩ := (R1.wipe (vs := vs)).at e2
      rw [e4] at e5
      cases e5
      rw [hD] at j1
      cases j1
    · rintro i m H2 ⟨Hf2, s2, acc, vsA, R2, pA, e2, rfl, hl, F3⟩
      have it2 := it.mono e2
      by_cases hi : i < ds.length
      · rw [List.drop_eq_getElem_cons hi] at F3
        unfold loopC at F3
        refine .inr ⟨it2.go i H2 R2.reg.sub hi, fun H' => ∃ Hf3 s3 acc' vsA', Rep K ba (upd O D (.lst vsA')) Hf3 H' (L2.wipe σ vs) s3 ∧ RpL K Hf3 acc' vsA' ∧ Same Hf1 Hf3 ∧ Fits (loopC vs t.put mt me (ds.drop (i + 1)) acc' s3) Post fun _ _ => True, fun H' n => ?_, fun x H' y => ?_⟩
        · obtain ⟨Hf3, s3, acc', vsA', R3, p3, e3, F4⟩ := n
          exact ⟨ds.length - (i + 1), by omega, Hf3, s3, acc', vsA', R3, p3, e3, rfl, hi, F4⟩
        · obtain ⟨Hf3, e3, R3, p3⟩ := R2.item (it2.yld i H2 x H' ds[i] R2.reg.sub (List.getElem?_eq_getElem hi) y)
          refine ⟨ba, upd O D (.lst vsA), Hf3, s2, ds[i], R3, p3, (Fits.put F3.bind).imp (fun _ s4 F4 σ4 H4 Hf4 R4 e4 on => ?_) fun x s' q => q⟩
          have w4 : L2.wipe σ4 vs = L2.wipe σ vs := by rw [on.wipe hv, wipe_twice]
          refine ⟨w4, hsub _ _ _ ⟨ba, upd O D (.lst vsA), Hf4, s4, R4, F4.bind.calm.imp (fun b s5 F5 H5 Hf5 R5 e5 => ?_) fun x s' q => q⟩⟩
          have e25 : Same Hf2 Hf5 := Same.trans e3 (Same.trans e4 e5)
          cases b with
          | true =>
            refine iteT ⟨ba, upd O D (.lst vsA), Hf5, s5, R5, (Fits.bind F5).calm.imp (fun r s6 F6 v H6 Hf6 R6 e6 ok6 => ?_) fun x s' q => q⟩
            obtain ⟨y', s7, Hf7, F7, e7, R7, p7⟩ := retain_ok R6 ok6 F6.bind
            have hD7 : H6 D = some (.lst vsA) := R7.reg.out D _ upd_same
            by_cases hz : acc.length < sizeLine
            · simp only [if_pos hz] at F7
              refine ⟨vsA, hD7, by rw [pA.length]; exact hz, Hf7, _, acc ++ [y'], vsA ++ [v], ?_, ?_, Same.trans e2 (Same.trans e25 (Same.trans e6 e7)), F7⟩
              · have := (R7.wipe (vs := vs)).change (o' := .lst (vsA ++ [v]))
                rw [w4] at this
                exact this
              · exact (RpL.mono (Same.trans e25 (Same.trans e6 e7)) _ _ pA).append (RpL.cons p7 RpL.nil)
            · simp only [if_neg hz] at F7
              exact F7.elim
          | false =>
            refine iteF ⟨Hf5, _, acc, vsA, ?_, RpL.mono e25 _ _ pA, Same.trans e2 e25, F5⟩
            have := R5.wipe (vs := vs)
            rw [w4] at this
            exact this
      · rw [List.drop_eq_nil_of_le (by omega)] at F3
        unfold loopC at F3
        have F4 : Post acc s2 := F3
        have hn : O D = none := f2
        have RO := R2.less (O := O) (fun b o z => by
          have : b ≠ D := fun z' => by rw [z', hn] at z; cases z
          rw [upd_ne this]; exact z)
        have RB := R1.unwipe hfr RO e2
        have hH : H2 D = some (.lst vsA) := R2.reg.out D _ upd_same
        have hf2 : Hf2 D = none := by
          cases q : Hf2 D with
          | none => rfl
          | some x =>
            have z := R2.reg.dis D (by rw [q]; simp)
            rw [upd_same] at z; cases z
        refine .inl ⟨it2.stop i H2 R2.reg.sub (by omega), F4 _ H2 Hf2 RB e2 ⟨D, rfl, ⟨vsA, hH, hf2, hn, f3, pA⟩, fun j es e3 e4 => ?_⟩⟩
        obtain ⟨x, e5, b, rfl, ws, k1, k2, k3, k4, k5⟩ := RB.at e3
        rw [e4] at e5
        cases e5
        -- an own list of the frame is not the new one
        have hj : j ∉ vs := fun z => by
          have hl0 : j < s1.ρ.length := by
            have h9 := (List.getElem?_eq_some_iff.mp e3).1
            rw [backS_length] at h9
            have h10 : s2.ρ.length = (L2.wipe σ vs).length := R2.len
            rw [wipe_length] at h10
            rw [R1.len, ← h10]
            exact h9
          rw [backS_in z (by have h9 := (List.getElem?_eq_some_iff.mp e3).1; rwa [backS_length] at h9)] at e3
          have q := List.all_eq_true.mp hfr j z
          rw [Option.some.inj e3] at q
          cases q
        rw [backS_not hj] at e3
        obtain ⟨x', e6, b', rfl, ws', j1, j2, j3, _⟩ := R2.at e3
        rw [wipe_not hj, e4] at e6
        cases e6
        rw [upd_same] at j3
        cases j3
  · simp only [hfr] at F1
    exact F1.elim
theorem pts_none {X : Cx} : PTs X [] (tMT X.K X.mg W0 mYes) := ⟨fun pins s σ H Q I q => pts_nil.run pins s σ H Q I (by
  obtain ⟨ba, O, Hf, s, R, F⟩ := q
  exact F H Hf R (Same.refl _))⟩
/-- a comprehension as a value -/
theorem ev_lc {elt tg iter : Expr} {ifs : List Expr} {scope : Scope} {own : List (Str × Nat)} {pos : Pos} {mi : M (List D)} {t : Tg} {mt : M Bool} {me : M Rv} (hc : X.calm = true) (hN : X.N.Nodup) (hi : EI X E tg iter mi) (ok : BlkOk X.N X.env.scope scope own)
    (hg : ∀ (s : Shared) (H : Hp) (C : Addr) (cl : List (Str × Addr)) (fp : List Addr), EG (X.blk s H scope (compEnvC scope cl C X.env) fp) tg t)
    (ht : ∀ (s : Shared) (H : Hp) (C : Addr) (cl : List (Str × Addr)) (fp : List Addr), PTs (X.blk s H scope (compEnvC scope cl C X.env) fp) ifs (tMT X.K X.mg W0 mt))
    (he : ∀ (s : Shared) (H : Hp) (C : Addr) (cl : List (Str × Addr)) (fp : List Addr), EV (X.blk s H scope (compEnvC scope cl C X.env) fp) W0 elt me)
    (hv : ∀ i ∈ t.slots, i ∈ own.map (·.2) := by decide) (hs : ∀ x, foldedSetIterable iter X.env x = pure x := by intro _; rfl) :
    EV X E (.ListComp elt [⟨tg, iter, ifs, 0⟩] scope pos) (mComp (own.map (·.2)) mi t mt me) :=
  PE.conv (pe_lc hc hN hi ok hg ht he hs) fun σ H Q q => lc_conv hv (fun _ _ _ q => q) q
/-- name = [..] on one line -/
theorem es_setLc {i : Nat} {y : Str} {py : Pos} {elt tg iter : Expr} {ifs : List Expr} {scope : Scope} {own : List (Str × Nat)} {pos spos : Pos} {mi : M (List D)} {t : Tg} {mt : M Bool} {me : M Rv} (hc : X.calm = true) (hN : X.N.Nodup) (hy : X.N[i]? = some y) (hyl : X.env.scope.names.lookup y = some .local)
    (hsw : swapsWith (.ListComp elt [⟨tg, iter, ifs, 0⟩] scope pos) (some (.Name y py)) spos.line X.env = pure true) (hi : EI X E tg iter mi) (ok : BlkOk X.N X.env.scope scope own)
    (hg : ∀ (s : Shared) (H : Hp) (C : Addr) (cl : List (Str × Addr)) (fp : List Addr), EG (X.blk s H scope (compEnvC scope cl C X.env) fp) tg t)
    (ht : ∀ (s : Shared) (H : Hp) (C : Addr) (cl : List (Str × Addr)) (fp : List Addr), PTs (X.blk s H scope (compEnvC scope cl C X.env) fp) ifs (tMT X.K X.mg W0 mt))
    (he : ∀ (s : Shared) (H : Hp) (C : Addr) (cl : List (Str × Addr)) (fp : List Addr), EV (X.blk s H scope (compEnvC scope cl C X.env) fp) W0 elt me)
    (hv : ∀ i ∈ t.slots, i ∈ own.map (·.2) := by decide) (hs : ∀ x, foldedSetIterable iter X.env x = pure x := by intro _; rfl) :
    ES X E (.Assign [.Name y py] (.ListComp elt [⟨tg, iter, ifs, 0⟩] scope pos) spos) (mSet i (mComp (own.map (·.2)) mi t mt me)) :=
  PS.conv (ps_setLc hc hN hy hyl hsw hi ok hg ht he hs) fun D σ H q => by
    obtain ⟨ba, O, Hf, s, R, F⟩ := q
    refine lc_conv (E := E) hv (fun _ _ _ q => q) ⟨ba, O, Hf, s, R, tMS.bind F fun r s' F' v H' Hf' R' e' ok => ?_⟩
    obtain ⟨s2, Hf2, F2, e2, R2⟩ := mStore_ok R' ok F'.bind
    exact F2 _ H' Hf2 R2 (Same.trans e' e2)
end
end Pu
/-! Pu10: comprehensions of two clauses; defs by their meanings. -/
namespace Pu
open PySem PySem.Spec PyProof.Rows L2
def loopC2 (vs vs1 : List Nat) (p : D → M Unit) (mt : M Bool) (mi1 : M (List D)) (p1 : D → M Unit) (mt1 : M Bool) (me : M Rv) : List D → List D → M (List D)
  | [], acc => M.pure acc
  | d :: ds, acc => M.bind (p d) fun _ => M.bind (calm mt) fun b => if b then M.bind (calm mi1) fun ds1 => M.bind (fun s => loopC vs1 p1 mt1 me ds1 acc { s with ρ := wipeS s.ρ vs1 }) fun acc' s =>
      loopC2 vs vs1 p mt mi1 p1 mt1 me ds acc' { s with ρ := wipeS s.ρ vs }
    else fun s => loopC2 vs vs1 p mt mi1 p1 mt1 me ds acc { s with ρ := wipeS s.ρ vs }
def mComp2 (vs vs1 : List Nat) (mi : M (List D)) (t : Tg) (mt : M Bool) (mi1 : M (List D)) (t1 : Tg) (mt1 : M Bool) (me : M Rv) : M Rv := M.bind mi fun ds => fun s => if freeS s.ρ vs then
    (M.bind (loopC2 vs vs1 t.put mt mi1 t1.put mt1 me ds []) fun acc => fun s' => some ({ s' with ρ := backS s.ρ s'.ρ vs }, .ok (.fresh acc))) { s with ρ := wipeS s.ρ vs }
  else none
section
variable {X : Cx} {E : WX}
/-- the end of a block's loop -/
theorem block_end {K : PySem.W.Frag} {ba : Option Addr} {O Hf1 Hf2 H1 H2 : Hp} {σ : St} {s1 s2 : S} {vs : List Nat} {L : Addr} {vsA : List V} {acc : List PyData} (R1 : Rep K ba O Hf1 H1 σ s1) (hfr : freeS s1.ρ vs = true) (f2 : O L = none) (f3 : ba ≠ some L)
    (R2 : Rep K ba (upd O L (.lst vsA)) Hf2 H2 (L2.wipe σ vs) s2) (e2 : Same Hf1 Hf2) (pA : RpL K Hf2 acc vsA) :
    Rep K ba O Hf2 H2 σ { s2 with ρ := backS s1.ρ s2.ρ vs } ∧ RvOk K ba O Hf2 H2 σ { s2 with ρ := backS s1.ρ s2.ρ vs } (.fresh acc) (.ref L) := by
  have RO := R2.less (O := O) (fun b o z => by
    have : b ≠ L := fun z' => by rw [z', f2] at z; cases z
    rw [upd_ne this]; exact z)
  have RB := R1.unwipe hfr RO e2
  have hH : H2 L = some (.lst vsA) := R2.reg.out L _ upd_same
  have hf2 : Hf2 L = none := by
    cases q : Hf2 L with
    | none => rfl
    | some x =>
      have z := R2.reg.dis L (by rw [q]; simp)
      rw [upd_same] at z; cases z
  refine ⟨RB, L, rfl, ⟨vsA, hH, hf2, f2, f3, pA⟩, fun j es e3 e4 => ?_⟩
  have hl : j < s2.ρ.length := by
    have h9 := (List.getElem?_eq_some_iff.mp e3).1
    rwa [backS_length] at h9
  have hj : j ∉ vs := fun z => by
    rw [backS_in z hl] at e3
    have q := List.all_eq_true.mp hfr j z
    rw [Option.some.inj e3] at q
    cases q
  rw [backS_not hj] at e3
  obtain ⟨x', e6, b', rfl, ws', j1, j2, j3, _⟩ := R2.at e3
  rw [wipe_not hj, e4] at e6
  cases e6
  rw [upd_same] at j3
  cases j3
/-- the block's start -/
theorem block_go {K : PySem.W.Frag} {ba : Option Addr} {O Hf1 H1 : Hp} {σ : St} {s1 : S} {vs : List Nat} {L : Addr} (R1 : Rep K ba O Hf1 H1 σ s1) (hD : H1 L = none) : Rep K ba (upd O L (.lst [])) Hf1 (upd H1 L (.lst [])) (L2.wipe σ vs) { s1 with ρ := wipeS s1.ρ vs } := by
  obtain ⟨f1, f2, f3⟩ := R1.reg.free hD
  refine ((R1.grow (o := .lst []) hD).wipe (vs := vs)).outer upd_same f1 f3 fun i es e2 e3 => ?_
  obtain ⟨x', e5, b', rfl, ws', j1, _⟩ := (R1.wipe (vs := vs)).at e2
  rw [e3] at e5
  cases e5
  rw [hD] at j1
  cases j1
theorem lc2_conv {K : PySem.W.Frag} {mg : Str → Option Value} {vs vs1 : List Nat} {mi mi1 : M (List D)} {t t1 : Tg} {mt mt1 : M Bool} {me : M Rv} {σ : St} {H : Hp} {Q : VK} (hv : ∀ i ∈ t.slots, i ∈ vs) (hv1 : ∀ i ∈ t1.slots, i ∈ vs1) (hvv : ∀ i ∈ vs1, i ∈ vs)
    (q : tM K mg E (mComp2 vs vs1 mi t mt mi1 t1 mt1 me) σ H Q) : tLc2 (iM K mg E mi) (tMG K t.slots t.put) (tMT K mg W0 mt) (iM K mg W0 mi1) (tMG K t1.slots t1.put) (tMT K mg W0 mt1) (tM K mg W0 me) vs vs1 σ H Q := by
  obtain ⟨ba, O, Hf, s, R0, F⟩ := q
  refine ⟨ba, O, Hf, s, R0, F.bind.imp (fun ds s1 F1 J H1 Hf1 R1 e1 it => ?_) fun x s' q => q⟩
  intro L hD
  by_cases hfr : freeS s1.ρ vs = true
  · simp only [hfr, if_true] at F1
    obtain ⟨f1, f2, f3⟩ := R1.reg.free hD
    let Post : List PyData → S → Prop := fun acc s' => ∀ v H' Hf', Rep K ba O Hf' H' σ { s' with ρ := backS s1.ρ s'.ρ vs } → Same Hf1 Hf' → RvOk K ba O Hf' H' σ { s' with ρ := backS s1.ρ s'.ρ vs } (.fresh acc) v → Q v H'
    have F2 : Fits (loopC2 vs vs1 t.put mt mi1 t1.put mt1 me ds [] { s1 with ρ := wipeS s1.ρ vs }) Post fun _ _ => True :=
      F1.bind.imp (fun acc s' h v H' Hf' R' e' ok' => h v H' Hf' R' (Same.trans e1 e') ok') fun _ _ _ => trivial
    refine ⟨fun i m H => ∃ Hf2 s2 acc vsA, Rep K ba (upd O L (.lst vsA)) Hf2 H (L2.wipe σ vs) s2 ∧ RpL K Hf2 acc vsA ∧ Same Hf1 Hf2 ∧ m = ds.length - i ∧ i ≤ ds.length ∧ Fits (loopC2 vs vs1 t.put mt mi1 t1.put mt1 me (ds.drop i) acc s2) Post fun _ _ => True,
      ⟨ds.length, Hf1, _, [], [], block_go R1 hD, RpL.nil, Same.refl _, rfl, Nat.zero_le _, F2⟩, ?_⟩
    rintro i m H2 ⟨Hf2, s2, acc, vsA, R2, pA, e2, rfl, hl, F3⟩
    have it2 := it.mono e2
    by_cases hi : i < ds.length
    · rw [List.drop_eq_getElem_cons hi] at F3
      unfold loopC2 at F3
      refine .inr ⟨it2.go i H2 R2.reg.sub hi, fun H' => ∃ Hf3 s3 acc' vsA', Rep K ba (upd O L (.lst vsA')) Hf3 H' (L2.wipe σ vs) s3 ∧ RpL K Hf3 acc' vsA' ∧ Same Hf1 Hf3 ∧ Fits (loopC2 vs vs1 t.put mt mi1 t1.put mt1 me (ds.drop (i + 1)) acc' s3) Post fun _ _ => True, fun H' n => ?_, fun x H' y => ?_⟩
      · obtain ⟨Hf3, s3, acc', vsA', R3, p3, e3, F4⟩ := n
        exact ⟨ds.length - (i + 1), by omega, Hf3, s3, acc', vsA', R3, p3, e3, rfl, hi, F4⟩
      · obtain ⟨Hf3, e3, R3, p3⟩ := R2.item (it2.yld i H2 x H' ds[i] R2.reg.sub (List.getElem?_eq_getElem hi) y)
        refine ⟨ba, upd O L (.lst vsA), Hf3, s2, ds[i], R3, p3, (Fits.put F3.bind).imp (fun _ s4 F4 σ4 H4 Hf4 R4 e4 on => ?_) fun x s' q => q⟩
        have w4 : L2.wipe σ4 vs = L2.wipe σ vs := by rw [on.wipe hv, wipe_twice]
        refine ⟨w4, ba, upd O L (.lst vsA), Hf4, s4, R4, F4.bind.calm.imp (fun b s5 F5 H5 Hf5 R5 e5 => ?_) fun x s' q => q⟩
        have e25 : Same Hf2 Hf5 := Same.trans e3 (Same.trans e4 e5)
        cases b with
        | true =>
          refine iteT ⟨ba, upd O L (.lst vsA), Hf5, s5, R5, (Fits.bind F5).calm.imp (fun ds1 s6 F6 J1 H6 Hf6 R6 e6 it6 => ?_) fun x s' q => q⟩
          have e26 : Same Hf2 Hf6 := Same.trans e25 e6
          -- the second clause's loop
          let PostI : List PyData → S → Prop := fun acc' s' => Fits (loopC2 vs vs1 t.put mt mi1 t1.put mt1 me (ds.drop (i + 1)) acc' { s' with ρ := wipeS s'.ρ vs }) Post fun _ _ => True
          have F7 : Fits (loopC vs1 t1.put mt1 me ds1 acc { s6 with ρ := wipeS s6.ρ vs1 }) PostI fun _ _ => True := F6.bind.imp (fun _ _ q => q) fun _ _ q => q
          refine ⟨fun j k H => ∃ Hf7 s7 acc7 vs7, Rep K ba (upd O L (.lst vs7)) Hf7 H (L2.wipe σ4 vs1) s7 ∧ RpL K Hf7 acc7 vs7 ∧ Same Hf6 Hf7 ∧ k = ds1.length - j ∧ j ≤ ds1.length ∧ Fits (loopC vs1 t1.put mt1 me (ds1.drop j) acc7 s7) PostI fun _ _ => True,
            ⟨ds1.length, Hf6, _, acc, vsA, R6.wipe, RpL.mono e26 _ _ pA, Same.refl _, rfl, Nat.zero_le _, F7⟩, ?_⟩
          rintro j k H7 ⟨Hf7, s7, acc7, vs7, R7, p7, e7, rfl, hl7, F8⟩
          have it7 := it6.mono e7
          by_cases hj : j < ds1.length
          · rw [List.drop_eq_getElem_cons hj] at F8
            unfold loopC at F8
            refine .inr ⟨it7.go j H7 R7.reg.sub hj, fun H' => ∃ Hf8 s8 acc8 vs8, Rep K ba (upd O L (.lst vs8)) Hf8 H' (L2.wipe σ4 vs1) s8 ∧ RpL K Hf8 acc8 vs8 ∧ Same Hf6 Hf8 ∧ Fits (loopC vs1 t1.put mt1 me (ds1.drop (j + 1)) acc8 s8) PostI fun _ _ => True, fun H' n => ?_, fun x8 H8 y8 => ?_⟩
            · obtain ⟨Hf8, s8, acc8, vs8, R8, p8, e8, F9⟩ := n
              exact ⟨ds1.length - (j + 1), by omega, Hf8, s8, acc8, vs8, R8, p8, e8, rfl, hj, F9⟩
            · obtain ⟨Hf8, e8, R8, p8⟩ := R7.item (it7.yld j H7 x8 H8 ds1[j] R7.reg.sub (List.getElem?_eq_getElem hj) y8)
              refine ⟨ba, upd O L (.lst vs7), Hf8, s7, ds1[j], R8, p8, (Fits.put F8.bind).imp (fun _ s9 F9 σ9 H9 Hf9 R9 e9 on9 => ?_) fun x s' q => q⟩
              have w9 : L2.wipe σ9 vs1 = L2.wipe σ4 vs1 := by rw [on9.wipe hv1, wipe_twice]
              refine ⟨w9, ba, upd O L (.lst vs7), Hf9, s9, R9, F9.bind.calm.imp (fun b s10 F10 H10 Hf10 R10 e10 => ?_) fun x s' q => q⟩
              have e710 : Same Hf7 Hf10 := Same.trans e8 (Same.trans e9 e10)
              cases b with
              | true =>
                refine iteT ⟨ba, upd O L (.lst vs7), Hf10, s10, R10, (Fits.bind F10).calm.imp (fun r s11 F11 v H11 Hf11 R11 e11 ok11 => ?_) fun x s' q => q⟩
                obtain ⟨y', s12, Hf12, F12, e12, R12, p12⟩ := retain_ok R11 ok11 F11.bind
                have hD7 : H11 L = some (.lst vs7) := R12.reg.out L _ upd_same
                by_cases hz : acc7.length < sizeLine
                · simp only [if_pos hz] at F12
                  refine ⟨vs7, hD7, by rw [p7.length]; exact hz, Hf12, _, acc7 ++ [y'], vs7 ++ [v], ?_, ?_, Same.trans e7 (Same.trans e710 (Same.trans e11 e12)), F12⟩
                  · have := (R12.wipe (vs := vs1)).change (o' := .lst (vs7 ++ [v]))
                    rw [w9] at this
                    exact this
                  · exact (RpL.mono (Same.trans e710 (Same.trans e11 e12)) _ _ p7).append (RpL.cons p12 RpL.nil)
                · simp only [if_neg hz] at F12
                  exact F12.elim
              | false =>
                refine iteF ⟨Hf10, _, acc7, vs7, ?_, RpL.mono e710 _ _ p7, Same.trans e7 e710, F10⟩
                have := R10.wipe (vs := vs1)
                rw [w9] at this
                exact this
          · rw [List.drop_eq_nil_of_le (by omega)] at F8
            unfold loopC at F8
            have F9 : PostI acc7 s7 := F8
            refine .inl ⟨it7.stop j H7 R7.reg.sub (by omega), Hf7, _, acc7, vs7, ?_, p7, Same.trans e2 (Same.trans e26 e7), F9⟩
            have := R7.wipe (vs := vs)
            rw [(Only.of_wipe (vs := vs1) σ4).wipe hvv, w4] at this
            exact this
        | false =>
          refine iteF ⟨Hf5, _, acc, vsA, ?_, RpL.mono e25 _ _ pA, Same.trans e2 e25, F5⟩
          have := R5.wipe (vs := vs)
          rw [w4] at this
          exact this
    · rw [List.drop_eq_nil_of_le (by omega)] at F3
      unfold loopC2 at F3
      have F4 : Post acc s2 := F3
      obtain ⟨RB, ok⟩ := block_end R1 hfr f2 f3 R2 e2 pA
      exact .inl ⟨it2.stop i H2 R2.reg.sub (by omega), F4 _ H2 Hf2 RB e2 ok⟩
  · simp only [hfr] at F1
    exact F1.elim
theorem ev_lc2 {elt tg iter tg1 iter1 : Expr} {ifs ifs1 : List Expr} {scope : Scope} {own : List (Str × Nat)} {vs1 : List Nat} {pos : Pos} {mi mi1 : M (List D)} {t t1 : Tg} {mt mt1 : M Bool} {me : M Rv} (hc : X.calm = true) (hN : X.N.Nodup) (hi : EI X E tg iter mi) (ok : BlkOk X.N X.env.scope scope own)
    (hg : ∀ (s : Shared) (H : Hp) (C : Addr) (cl : List (Str × Addr)) (fp : List Addr), EG (X.blk s H scope (compEnvC scope cl C X.env) fp) tg t)
    (ht : ∀ (s : Shared) (H : Hp) (C : Addr) (cl : List (Str × Addr)) (fp : List Addr), PTs (X.blk s H scope (compEnvC scope cl C X.env) fp) ifs (tMT X.K X.mg W0 mt))
    (hi1 : ∀ (s : Shared) (H : Hp) (C : Addr) (cl : List (Str × Addr)) (fp : List Addr), EI (X.blk s H scope (compEnvC scope cl C X.env) fp) W0 tg1 iter1 mi1)
    (hg1 : ∀ (s : Shared) (H : Hp) (C : Addr) (cl : List (Str × Addr)) (fp : List Addr), EG (X.blk s H scope (compEnvC scope cl C X.env) fp) tg1 t1)
    (ht1 : ∀ (s : Shared) (H : Hp) (C : Addr) (cl : List (Str × Addr)) (fp : List Addr), PTs (X.blk s H scope (compEnvC scope cl C X.env) fp) ifs1 (tMT X.K X.mg W0 mt1))
    (he : ∀ (s : Shared) (H : Hp) (C : Addr) (cl : List (Str × Addr)) (fp : List Addr), EV (X.blk s H scope (compEnvC scope cl C X.env) fp) W0 elt me)
    (hv : ∀ i ∈ t.slots, i ∈ own.map (·.2) := by decide) (hv1 : ∀ i ∈ t1.slots, i ∈ vs1 := by decide) (hvv : ∀ i ∈ vs1, i ∈ own.map (·.2) := by decide) (hs : ∀ x, foldedSetIterable iter X.env x = pure x := by intro _; rfl) (hs1 : ∀ env x, foldedSetIterable iter1 env x = pure x := by intro _ _; rfl) :
    EV X E (.ListComp elt [⟨tg, iter, ifs, 0⟩, ⟨tg1, iter1, ifs1, 0⟩] scope pos) (mComp2 (own.map (·.2)) vs1 mi t mt mi1 t1 mt1 me) :=
  PE.conv (pe_lc2 hc hN hi ok hvv hg ht hi1 hg1 ht1 he hs hs1) fun σ H Q q => lc2_conv hv hv1 hvv q
theorem es_setLc2 {i : Nat} {y : Str} {py : Pos} {elt tg iter tg1 iter1 : Expr} {ifs ifs1 : List Expr} {scope : Scope} {own : List (Str × Nat)} {vs1 : List Nat} {pos spos : Pos} {mi mi1 : M (List D)} {t t1 : Tg} {mt mt1 : M Bool} {me : M Rv} (hc : X.calm = true) (hN : X.N.Nodup) (hy : X.N[i]? = some y) (hyl : X.env.scope.names.lookup y = some .local)
    (hsw : swapsWith (.ListComp elt [⟨tg, iter, ifs, 0⟩, ⟨tg1, iter1, ifs1, 0⟩] scope pos) (some (.Name y py)) spos.line X.env = pure true) (hi : EI X E tg iter mi) (ok : BlkOk X.N X.env.scope scope own)
    (hg : ∀ (s : Shared) (H : Hp) (C : Addr) (cl : List (Str × Addr)) (fp : List Addr), EG (X.blk s H scope (compEnvC scope cl C X.env) fp) tg t)
    (ht : ∀ (s : Shared) (H : Hp) (C : Addr) (cl : List (Str × Addr)) (fp : List Addr), PTs (X.blk s H scope (compEnvC scope cl C X.env) fp) ifs (tMT X.K X.mg W0 mt))
    (hi1 : ∀ (s : Shared) (H : Hp) (C : Addr) (cl : List (Str × Addr)) (fp : List Addr), EI (X.blk s H scope (compEnvC scope cl C X.env) fp) W0 tg1 iter1 mi1)
    (hg1 : ∀ (s : Shared) (H : Hp) (C : Addr) (cl : List (Str × Addr)) (fp : List Addr), EG (X.blk s H scope (compEnvC scope cl C X.env) fp) tg1 t1)
    (ht1 : ∀ (s : Shared) (H : Hp) (C : Addr) (cl : List (Str × Addr)) (fp : List Addr), PTs (X.blk s H scope (compEnvC scope cl C X.env) fp) ifs1 (tMT X.K X.mg W0 mt1))
    (he : ∀ (s : Shared) (H : Hp) (C : Addr) (cl : List (Str × Addr)) (fp : List Addr), EV (X.blk s H scope (compEnvC scope cl C X.env) fp) W0 elt me)
    (hv : ∀ i ∈ t.slots, i ∈ own.map (·.2) := by decide) (hv1 : ∀ i ∈ t1.slots, i ∈ vs1 := by decide) (hvv : ∀ i ∈ vs1, i ∈ own.map (·.2) := by decide) (hs : ∀ x, foldedSetIterable iter X.env x = pure x := by intro _; rfl) (hs1 : ∀ env x, foldedSetIterable iter1 env x = pure x := by intro _ _; rfl) :
    ES X E (.Assign [.Name y py] (.ListComp elt [⟨tg, iter, ifs, 0⟩, ⟨tg1, iter1, ifs1, 0⟩] scope pos) spos) (mSet i (mComp2 (own.map (·.2)) vs1 mi t mt mi1 t1 mt1 me)) :=
  PS.conv (ps_setLc2 hc hN hy hyl hsw hi ok hvv hg ht hi1 hg1 ht1 he hs hs1) fun D σ H q => by
    obtain ⟨ba, O, Hf, s, R, F⟩ := q
    refine lc2_conv (E := E) hv hv1 hvv ⟨ba, O, Hf, s, R, tMS.bind F fun r s' F' v H' Hf' R' e' ok => ?_⟩
    obtain ⟨s2, Hf2, F2, e2, R2⟩ := mStore_ok R' ok F'.bind
    exact F2 _ H' Hf2 R2 (Same.trans e' e2)
theorem pts_m {c : Expr} {X : Cx} {mt : M Bool} (h : ET X W0 c mt) : PTs X [c] (tMT X.K X.mg W0 mt) := pts_one h
end
/-! ### defs by their meanings -/
def resOf (s : S) : Rv → Option Rs
  | .dat d => some (.dat d)
  | .fresh ds => some (.fresh ds)
  | .slot i => match s.ρ[i]? with
    | some (.own ds) => some (.fresh ds)
    | _ => none
  | .bag => none
def slAr : Ar → Sl
  | .dat d => .dat d
  | .bag => .bag
/-- a def's names at the entry: n names in all -/
def begin (n : Nat) (as : List Ar) : List Sl := as.map slAr ++ List.replicate (n - as.length) .no
def runDef (n : Nat) (m : M Fl) : Fn := fun β as => match m ⟨begin n as, β⟩ with
  | some (s, .ok .nx) => some (s.β, .ok (.dat .none))
  | some (s, .ok (.rt r)) => (resOf s r).map fun x => (s.β, .ok x)
  | some (s, .error x) => some (s.β, .error x)
  | _ => none
theorem rep_begin {K : PySem.W.Frag} {ba : Option Addr} {O Hf H : Hp} {β : Bag} {N : List Str} {as : List Ar} {vs : List V} (R : Reg K ba O Hf H β) (h : ArL K ba Hf as vs) : Rep K ba O Hf H (start N vs) ⟨begin N.length as, β⟩ := by
  have hl := h.length
  have look : ∀ {i : Nat} {sl : Sl}, (begin N.length as)[i]? = some sl → (∃ a, as[i]? = some a ∧ sl = slAr a) ∨ (as.length ≤ i ∧ sl = .no) := fun {i sl} e => by
    unfold begin at e
    by_cases hi : i < as.length
    · rw [List.getElem?_append_left (by simpa using hi), List.getElem?_map] at e
      cases q : as[i]? with
      | none => (rw [q] at e; cases e)
      | some a => rw [q] at e; exact .inl ⟨a, rfl, (Option.some.inj e).symm⟩
    · rw [List.getElem?_append_right (by simpa using hi), List.getElem?_replicate] at e
      split at e
      · exact .inr ⟨by omega, (Option.some.inj e).symm⟩
      · cases e
  have at' : ∀ {as : List Ar} {vs : List V} {i : Nat} {a : Ar}, ArL K ba Hf as vs → as[i]? = some a → ∃ v, vs[i]? = some v ∧ ArOk K ba Hf a v := by
    intro as
    induction as with
    | nil => intro vs i a _ e; simp at e
    | cons b as ih =>
      rintro vs i a ⟨v, r, rfl, h2, h3⟩ e
      cases i with
      | zero => simp at e; subst e; exact ⟨v, rfl, h2⟩
      | succ i =>
        obtain ⟨w, e1, e2⟩ := ih h3 (i := i) (by simpa using e)
        exact ⟨w, by simpa using e1, e2⟩
  have noOwn : ∀ (i : Nat) ds, (begin N.length as)[i]? ≠ some (.own ds) := fun i ds e => by
    rcases look e with ⟨a, _, z⟩ | ⟨_, z⟩
    · cases a <;> cases z
    · cases z
  refine ⟨R, ?_, fun i sl x e1 e2 => ?_, fun i j ds es x _ e1 => absurd e1 (noOwn i ds)⟩
  · unfold begin L2.start
    simp only [List.length_append, List.length_map, List.length_replicate]
    omega
  · rcases look e1 with ⟨a, k1, rfl⟩ | ⟨_, rfl⟩
    · obtain ⟨v, k2, k3⟩ := at' h k1
      have hi : i < vs.length := (List.getElem?_eq_some_iff.mp k2).1
      have e2' : (start N vs)[i]? = some x := e2
      unfold L2.start at e2'
      rw [List.getElem?_append_left (by simpa using hi), List.getElem?_map, k2] at e2'
      cases e2'
      cases a with
      | dat d => exact ⟨v, rfl, k3⟩
      | bag => obtain ⟨b, z1, z2⟩ := k3; exact ⟨b, z1, by rw [z2]⟩
    · trivial
/-- the end of a def -/
theorem def_conv {K : PySem.W.Frag} {mg : Str → Option Value} {N : List Str} {n : Nat} {m : M Fl} {f : Fn} (hf : ∀ β as r, as.length = n → f β as = some r → runDef N.length m β as = some r) {vs : List V} {H : Hp} {Q : VK} {E : XK} (h : SpM K mg n f vs H Q E) :
    tMS K mg (fun c d _ H => E c d H) m { nx := fun _ H' => Q .non H', rt := Q } (start N vs) H := by
  obtain ⟨ba, O, Hf, β, as, r, β', hn, R, a, ef, post⟩ := h
  have e := hf β as _ hn ef
  unfold runDef at e
  refine ⟨ba, O, Hf, _, rep_begin R a, ?_⟩
  cases em : m ⟨begin N.length as, β⟩ with
  | none => rw [em] at e; cases e
  | some q =>
    obtain ⟨s', z⟩ := q
    rw [em] at e
    cases z with
    | error x =>
      cases e
      intro σ' H' Hf' c d R' e' ex
      exact post H' Hf' c d R'.reg e' ex
    | ok fl =>
      cases fl with
      | nx =>
        cases e
        intro σ' H' Hf' R' e'
        exact post _ H' Hf' R'.reg e' (show Rp K Hf' .none .non by simp only [Rp])
      | rt rv =>
        obtain ⟨x, ex, ez⟩ := Option.map_eq_some_iff.mp e
        cases ez
        intro σ' H' Hf' R' e' v ok
        refine post v H' Hf' R'.reg e' ?_
        cases rv with
        | dat d => cases ex; exact ok
        | fresh ds => cases ex; obtain ⟨a, k1, k2, _⟩ := ok; exact ⟨a, k1, k2⟩
        | slot i =>
          obtain ⟨ds, k1, k2⟩ := ok
          unfold resOf at ex
          simp only [k1] at ex
          cases ex
          obtain ⟨a, k3, k4⟩ := R'.slot i _ _ k1 k2
          cases k3
          exact ⟨a, rfl, k4⟩
        | bag => cases ex
      | bk => cases e
      | ct => cases e
/-- THE RULE for a def -/
theorem fnM {P : Program} {w : World} {K : PySem.W.Frag} {mg : Str → Option Value} {base : Heap} {k : Nat} {f : Addr} {x qual : Str} {st : Stmt} {fd : FuncData} {N ps : List Str} {F : Fn} {m : M Fl}
    (U : Fun K x qual st f fd) (Sc : FnScope N ps (defScope st))
    (body : ∀ (cdv : Value) (A : Around) (outer : List Env) (s : Shared) (H : Hp) (E : XK), A.guards = some [] → Room k (A.deeper (envOfC qual (defScope st) s.heap.objs.size f cdv)) →
      ESs (cxOf (L2.CX P w) P w K mg base N qual (defScope st) f cdv A outer s H E) (fun c d _ H => E c d H) (defBody st) m)
    (hf : ∀ β as r, as.length = ps.length → F β as = some r → runDef N.length m β as = some r) : FnG P w K mg base (L2.CX P w) (k + 1) f fd ps (SpM K mg ps.length F) :=
  fnG_of U Sc (fun vs H Q E h => by
    obtain ⟨ba, O, Hf, β, as, r, β', hn, R, a, ef, post⟩ := h
    rw [a.length, hn]) fun cdv A outer s H vs Q E hg hr h => ⟨_, body cdv A outer s H E hg hr, def_conv hf h⟩
end Pu
/-! Pu11: built-in functions. -/
namespace Pu
open PySem PySem.Spec PyProof.Rows L2
section
variable {X : Cx} {E : WX} {x : Str} {p p2 pos : Pos} {e e2 : Expr} {m m2 : M Rv} {id T : String} {r : List V → Hp → VK → Prop}
/-- a built-in function of one argument -/
theorem ev_b1 {f : D → Option Rs} (hc : CallR X (.builtin id) r) (hf : Op1 X.K (fun v => r [v]) f) (hg : Gl X x) (hm : X.mg x = none) (hv : bootBuiltins x = some (.builtin id)) (ha : EV X E e m) (hn : x ≠ "__name__" := by decide) (hdb : (x == ("__debug__" : Str)) = false := by decide)
    (na : starEach [e] X.env = (false, eval e X.env) :: starEach [] X.env := by rfl) : EV X E (.Call (.Name x p) [e] [] pos) (mUn f m) :=
  PE.conv (pe_callB hc hg hm hv (pa_cons ha pa_nil na) hn hdb na) fun σ H Q q => un_conv (r := fun v => r [v]) hf q
theorem ev_t1 {f : D → Option Rs} (hc : CallR X (.type T) r) (hf : Op1 X.K (fun v => r [v]) f) (hg : Gl X x) (hm : X.mg x = none) (hv : bootBuiltins x = some (.type T)) (ha : EV X E e m) (hn : x ≠ "__name__" := by decide) (hdb : (x == ("__debug__" : Str)) = false := by decide)
    (na : starEach [e] X.env = (false, eval e X.env) :: starEach [] X.env := by rfl) : EV X E (.Call (.Name x p) [e] [] pos) (mUn f m) :=
  PE.conv (pe_callTy hc hg hm hv (pa_cons ha pa_nil na) hn hdb na) fun σ H Q q => un_conv (r := fun v => r [v]) hf q
/-- of two -/
theorem ev_b2 {f : D → D → Option Rs} (hc : CallR X (.builtin id) r) (hf : Op2 X.K (fun v w => r [v, w]) f) (hg : Gl X x) (hm : X.mg x = none) (hv : bootBuiltins x = some (.builtin id)) (ha : EV X E e m) (hb : EV X E e2 m2) (hn : x ≠ "__name__" := by decide) (hdb : (x == ("__debug__" : Str)) = false := by decide)
    (na : starEach [e, e2] X.env = (false, eval e X.env) :: starEach [e2] X.env := by rfl) (nb : starEach [e2] X.env = (false, eval e2 X.env) :: starEach [] X.env := by rfl) (hpl : (backTo pos (starEach [e2] X.env)).any (·.1) = false := by rfl) : EV X E (.Call (.Name x p) [e, e2] [] pos) (mBin f m m2) :=
  PE.conv (pe_callB hc hg hm hv (pa_cons ha (pa_cons hb pa_nil nb) na) hn hdb na hpl) fun σ H Q q => bin_conv (r := fun v w => r [v, w]) hf q
/-- isinstance(e, T) -/
theorem ev_isi {f : D → Option Rs} {y : Str} (hc : CallR X (.builtin "isinstance") r) (hf : Op1 X.K (fun v => r [v, .ty T]) f) (hg : Gl X "isinstance") (hm : X.mg "isinstance" = none) (hg2 : Gl X y) (hm2 : X.mg y = none) (hv2 : bootBuiltins y = some (.type T)) (ha : EV X E e m) (hn : y ≠ "__name__" := by decide) (hdb : (y == ("__debug__" : Str)) = false := by decide)
    (na : starEach [e, .Name y p2] X.env = (false, eval e X.env) :: starEach [.Name y p2] X.env := by rfl) (nb : starEach [.Name y p2] X.env = (false, eval (.Name y p2) X.env) :: starEach [] X.env := by rfl) (hpl : (backTo pos (starEach [.Name y p2] X.env)).any (·.1) = false := by rfl)
    (hv : bootBuiltins "isinstance" = some (.builtin "isinstance") := by decide +kernel) : EV X E (.Call (.Name "isinstance" p) [e, .Name y p2] [] pos) (mUn f m) :=
  PE.conv (pe_callB hc hg hm hv (pa_cons ha (pa_cons (pe_bltn (v := .ty T) hg2 hm2 hv2 rfl hn hdb) pa_nil nb) na) (by decide) (by decide) na hpl) fun σ H Q q => un_conv (r := fun v => r [v, .ty T]) hf q
/-! the data's side -/
def dLen : D → Option Rs
  | .list xs => some (.dat (.int xs.length))
  | .tuple xs => some (.dat (.int xs.length))
  | .str x => if x.length ≤ sizeLine then some (.dat (.int x.length)) else none
  | _ => none
theorem o1_len : Op1 X.K (fun v H Q => ∃ x n, [v] = [x] ∧ LenV X.K x H n ∧ Q (.int n) H) dLen := by
  intro Hf H d x res Q e b er q
  cases d with
  | list ds =>
    cases er
    obtain ⟨a, vs, rfl, h1, h2⟩ := brp_list e b
    exact ⟨_, _, rfl, .inl ⟨vs, h1, rfl⟩, by rw [h2.length]; exact q _ _ (.old (by simp only [Rp]))⟩
  | tuple ds =>
    cases er
    obtain ⟨a, vs, rfl, h1, h2⟩ := brp_tup e b
    exact ⟨_, _, rfl, .inr ⟨vs, h1, rfl⟩, by rw [h2.length]; exact q _ _ (.old (by simp only [Rp]))⟩
  | str y =>
    simp only [dLen] at er
    split at er
    · cases er
      obtain rfl := brp_str b
      exact ⟨_, _, rfl, ⟨by assumption, rfl⟩, q _ _ (.old (by simp only [Rp]))⟩
    · cases er
  | _ => cases er
def dInt : D → Option Rs
  | .int i => some (.dat (.int i))
  | .bool k => some (.dat (.int (if k then 1 else 0)))
  | _ => none
theorem o1_int {K : PySem.W.Frag} : Op1 K (fun v H Q => (∃ i, [v] = [V.int i] ∧ Q (.int i) H) ∨ ∃ k, [v] = [V.bl k] ∧ Q (.int (if k then 1 else 0)) H) dInt := by
  intro Hf H d x res Q e b er q
  cases d with
  | int i =>
    cases er
    obtain rfl := brp_int b
    exact .inl ⟨i, rfl, q _ _ (.old (by simp only [Rp]))⟩
  | bool k =>
    cases er
    obtain rfl := brp_bl b
    exact .inr ⟨k, rfl, q _ _ (.old (by simp only [Rp]))⟩
  | _ => cases er
def dAbs : D → Option Rs
  | .int i => some (.dat (.int (if i < 0 then -i else i)))
  | _ => none
theorem o1_abs {K : PySem.W.Frag} : Op1 K (fun v H Q => ∃ i, [v] = [V.int i] ∧ Q (.int (if i < 0 then -i else i)) H) dAbs := by
  intro Hf H d x res Q e b er q
  cases d with
  | int i =>
    cases er
    obtain rfl := brp_int b
    exact ⟨i, rfl, q _ _ (.old (by simp only [Rp]))⟩
  | _ => cases er
def dMax (a b : D) : Option Rs := match a, b with
  | .int i, .int j => some (.dat (.int (if j > i then j else i)))
  | _, _ => none
theorem o2_max {K : PySem.W.Frag} : Op2 K (fun v w H Q => ∃ i j, [v, w] = [V.int i, V.int j] ∧ Q (.int (if j > i then j else i)) H) dMax := by
  intro Hf H d1 d2 x y res Q e b1 b2 er q
  unfold dMax at er
  split at er
  · cases er
    obtain rfl := brp_int b1
    obtain rfl := brp_int b2
    exact ⟨_, _, rfl, q _ _ (.old (by simp only [Rp]))⟩
  · cases er
def dTuple : D → Option Rs
  | .list xs => some (.dat (.tuple xs))
  | .tuple xs => some (.dat (.tuple xs))
  | _ => none
theorem o1_tuple : Op1 X.K (fun v H Q => ∃ p ys, [v] = [V.ref p] ∧ ((SqL X.K H p ys ∧ ∀ l, H l = none → Q (.ref l) (upd H l (.tup ys))) ∨ (SqT X.K H p ys ∧ Q (.ref p) H))) dTuple := by
  intro Hf H d x res Q e b er q
  cases d with
  | list ds =>
    cases er
    obtain ⟨a, vs, rfl, h1, h2⟩ := brp_list e b
    exact ⟨_, _, rfl, .inl ⟨h1, fun l hl => q _ _ (.tup hl h2)⟩⟩
  | tuple ds =>
    cases er
    rcases b with b | ⟨_, _, _, _, _, z, _⟩
    · have b' := b
      simp only [Rp] at b
      obtain ⟨a, vs, rfl, h1, h2⟩ := b
      exact ⟨_, _, rfl, .inr ⟨Same.sqT e h1, q _ _ (.old b')⟩⟩
    · cases z
  | _ => cases er
def dList : D → Option Rs
  | .list xs => some (.fresh xs)
  | .tuple xs => some (.fresh xs)
  | _ => none
theorem o1_list : Op1 X.K (fun v H Q => ∃ p ys, [v] = [V.ref p] ∧ (SqL X.K H p ys ∨ SqT X.K H p ys) ∧ ∀ l, H l = none → Q (.ref l) (upd H l (.lst ys))) dList := by
  intro Hf H d x res Q e b er q
  cases d with
  | list ds =>
    cases er
    obtain ⟨a, vs, rfl, h1, h2⟩ := brp_list e b
    exact ⟨_, _, rfl, .inl (h1), fun l hl => q _ _ (.lst hl h2)⟩
  | tuple ds =>
    cases er
    obtain ⟨a, vs, rfl, h1, h2⟩ := brp_tup e b
    exact ⟨_, _, rfl, .inr h1, fun l hl => q _ _ (.lst hl h2)⟩
  | _ => cases er
end
section
variable {X : Cx}
/-! isinstance -/
def rIsD (T : String) (K : PySem.W.Frag) (f : D → Bool) : List V → Hp → VK → Prop := fun xs H Q => ∃ v Hf d, xs = [v, .ty T] ∧ Same Hf H ∧ BRp K Hf H d v ∧ d.plain = true ∧ Q (.bl (f d)) H
def dIs (f : D → Bool) : D → Option Rs := fun d => if d.plain then some (.dat (.bool (f d))) else none
theorem o1_is {T : String} {f : D → Bool} : Op1 X.K (fun v => rIsD T X.K f [v, .ty T]) (dIs f) := by
  intro Hf H d x res Q e b er q
  unfold dIs at er
  split at er
  · cases er
    exact ⟨x, Hf, d, rfl, e, b, by assumption, q _ _ (.old (by simp only [Rp]))⟩
  · cases er
theorem call_isInt : CallR X (.builtin "isinstance") (rIsD "int" X.K PyData.isInt) := by
  intro pins s σ H xs us Q I r h; obtain ⟨v, Hf, d, rfl, e, b, p, q⟩ := h
  cases r with
  | cons rx rr => cases rr with
    | cons rt rr =>
      cases rr
      cases rt
      obtain ⟨as, r1⟩ := reads_b I e b rx p
      exact PySem.W.isinstance_int_data r1 fun tk _ => ⟨.bl _, H, I.tok _, rfl, q⟩
theorem call_isBool : CallR X (.builtin "isinstance") (rIsD "bool" X.K PyData.isBool) := by
  intro pins s σ H xs us Q I r h; obtain ⟨v, Hf, d, rfl, e, b, p, q⟩ := h
  cases r with
  | cons rx rr => cases rr with
    | cons rt rr =>
      cases rr
      cases rt
      obtain ⟨as, r1⟩ := reads_b I e b rx p
      exact PySem.W.isinstance_bool_data r1 fun tk _ => ⟨.bl _, H, I.tok _, rfl, q⟩
theorem call_isStr : CallR X (.builtin "isinstance") (rIsD "str" X.K PyData.isStr) := by
  intro pins s σ H xs us Q I r h; obtain ⟨v, Hf, d, rfl, e, b, p, q⟩ := h
  cases r with
  | cons rx rr => cases rr with
    | cons rt rr =>
      cases rr
      cases rt
      obtain ⟨as, r1⟩ := reads_b I e b rx p
      exact PySem.W.isinstance_str_data r1 fun tk _ => ⟨.bl _, H, I.tok _, rfl, q⟩
theorem call_isTuple : CallR X (.builtin "isinstance") (rIsD "tuple" X.K PyData.isTuple) := by
  intro pins s σ H xs us Q I r h; obtain ⟨v, Hf, d, rfl, e, b, p, q⟩ := h
  cases r with
  | cons rx rr => cases rr with
    | cons rt rr =>
      cases rr
      cases rt
      obtain ⟨as, r1⟩ := reads_b I e b rx p
      exact PySem.W.isinstance_tuple_data r1 fun tk _ => ⟨.bl _, H, I.tok _, rfl, q⟩
/-! repr -/
def rRepD (K : PySem.W.Frag) : List V → Hp → VK → Prop := fun xs H Q => ∃ v Hf d, xs = [v] ∧ Same Hf H ∧ BRp K Hf H d v ∧ ((∃ i, d = .int i ∧ i.natAbs.log2 < 1920 ∧ Q (.str (toString i)) H) ∨
  ((∃ ds, d = .list ds ∨ d = .tuple ds) ∧ d.plain = true ∧ d.showable = true ∧ d.depth ≤ 50 ∧ d.shown.length ≤ sizeLine ∧ Q (.str d.shown) H))
def dRep : D → Option Rs
  | .int i => if i.natAbs.log2 < 1920 then some (.dat (.str (toString i))) else none
  | .list ds => let d : D := .list ds; if d.plain && d.showable && decide (d.depth ≤ 50) && decide (d.shown.length ≤ sizeLine) then some (.dat (.str d.shown)) else none
  | .tuple ds => let d : D := .tuple ds; if d.plain && d.showable && decide (d.depth ≤ 50) && decide (d.shown.length ≤ sizeLine) then some (.dat (.str d.shown)) else none
  | _ => none
theorem o1_rep : Op1 X.K (fun v => rRepD X.K [v]) dRep := by
  intro Hf H d x res Q e b er q
  cases d with
  | int i =>
    simp only [dRep] at er
    split at er
    · cases er
      exact ⟨x, Hf, _, rfl, e, b, .inl ⟨i, rfl, by assumption, q _ _ (.old (by simp only [Rp]))⟩⟩
    · cases er
  | list ds =>
    simp only [dRep] at er
    split at er
    · rename_i h
      cases er
      simp only [Bool.and_eq_true, decide_eq_true_eq] at h; exact ⟨x, Hf, _, rfl, e, b, .inr ⟨⟨ds, .inl rfl⟩, h.1.1.1, h.1.1.2, h.1.2, h.2, q _ _ (.old (by simp only [Rp]))⟩⟩
    · cases er
  | tuple ds =>
    simp only [dRep] at er
    split at er
    · rename_i h
      cases er
      simp only [Bool.and_eq_true, decide_eq_true_eq] at h; exact ⟨x, Hf, _, rfl, e, b, .inr ⟨⟨ds, .inr rfl⟩, h.1.1.1, h.1.1.2, h.1.2, h.2, q _ _ (.old (by simp only [Rp]))⟩⟩
    · cases er
  | _ => cases er
theorem call_repD (hu : X.A.units + 64 < cLine) (hgd : X.A.guards = some []) : CallR X (.builtin "repr") (rRepD X.K) := by
  intro pins s σ H xs us Q I r h; obtain ⟨v, Hf, d, rfl, e, b, h⟩ := h
  obtain ⟨u, rfl, rx⟩ := vals1 r; rcases h with ⟨i, rfl, hz, q⟩ | ⟨hd, h1, h2, h3, h4, q⟩
  · obtain rfl := brp_int b
    obtain ⟨t, rfl⟩ := rx; exact PySem.P.repr_of_int hz ⟨.str _, H, I.tok _, ⟨_, rfl⟩, q⟩
  · obtain ⟨as, r1⟩ := reads_b I e b rx h1
    have : ∃ a, u = .ref a := by
      obtain ⟨ds, rfl | rfl⟩ := hd
      · obtain ⟨a, vs, rfl, _⟩ := brp_list e b
        exact ⟨a, rx⟩
      · obtain ⟨a, vs, rfl, _⟩ := brp_tup e b
        exact ⟨a, rx⟩
    obtain ⟨a, rfl⟩ := this
    exact repr_of_reads' r1 h2 (fun z => by rw [plain_hd d h1] at z; cases z) hgd (by omega) (fun _ _ z => z) (fun h' u' tk k => ⟨.str _, H, I.kept (t' := tk) k, ⟨_, rfl⟩, q⟩) h4
end
end Pu
/-! Pu12: zip of lists and tuples in any mixture. -/
namespace Pu
open PySem PySem.Spec PyProof.Rows L2
def SqX (k : Bool) (K : PySem.W.Frag) (H : Hp) (a : Addr) (xs : List V) : Prop := if k = true then SqL K H a xs else SqT K H a xs
def IterX (k : Bool) (h : Heap) (i a : Addr) (n : Nat) : Prop := if k = true then h.IsListIter i a n else h.IsTupleIter i a n
def SeqX (k : Bool) (h : Heap) (a : Addr) (its : Array Value) : Prop := if k = true then h.IsList a its else h.IsTuple a its
def beginO (k : Bool) (a : Addr) : Obj := { cls := .type (if k = true then "list_iterator" else "tuple_iterator"), data := .fields #[.ref a, .int 0 0] }
section
variable {A : Around} {prog : Program} {w : World}
theorem drawsX (k : Bool) (hh : A.handled = none) (it l : Addr) (hne : l ≠ it) (items : Array Value) : Draws prog w A it [it, l] items.size (fun i v => items[i]? = some v) (fun i h => IterX k h it l i ∧ SeqX k h l items) := by
  cases k with
  | true => exact Draws.list hh it l hne items
  | false => exact Draws.tuple hh it l hne items
theorem beginsX (k : Bool) (l : Addr) (items : Array Value) : Begins (.ref l) (beginO k l) fun h => SeqX k h l items := by
  cases k with
  | true => exact begins_list l items
  | false => exact begins_tuple l items
theorem IterX.new (k : Bool) {h : Heap} {i a : Addr} (e : h.get? i = some (beginO k a)) : IterX k h i a 0 := by
  cases k with
  | true => exact ⟨_, e, rfl, rfl⟩
  | false => exact ⟨_, e, rfl, rfl⟩
theorem IterX.obj {k : Bool} {h : Heap} {i a : Addr} {n : Nat} (x : IterX k h i a n) : ∃ o, h.get? i = some o ∧ ∀ v, o.data ≠ .cell v := by
  cases k with
  | true => obtain ⟨o, e, _, d⟩ := x; exact ⟨o, e, fun v q => by rw [d] at q; cases q⟩
  | false => obtain ⟨o, e, _, d⟩ := x; exact ⟨o, e, fun v q => by rw [d] at q; cases q⟩
theorem IterX.move {k : Bool} {h h' : Heap} {i a : Addr} {n : Nat} (x : IterX k h i a n) (kp : ∀ o, h.get? i = some o → h'.get? i = some o) : IterX k h' i a n := by
  cases k with
  | true => exact x.at kp
  | false => exact x.at kp
end
section
variable {X : Cx} {pins : List (Addr × Obj)} {σ : L2.St} {H : Hp} {s : Shared} {a : Addr} {xs : List V}
theorem SqX.conc {k : Bool} (I : Inv X pins σ H s) (h : SqX k X.K H a xs) : ∃ its : List Value, Vals xs its ∧ SeqX k s.heap a its.toArray ∧ a < s.heap.objs.size := by
  cases k with
  | true =>
    obtain ⟨its, rv, p, _⟩ := I.list h
    exact ⟨its, rv, p.isList, p.lt⟩
  | false =>
    obtain ⟨its, rv, p, _⟩ := I.tuple h
    obtain ⟨o, e, _⟩ := id p
    exact ⟨its, rv, p, Heap.lt_size e⟩
theorem SqX.same {k : Bool} {ys : List V} (I : Inv X pins σ H s) (h : SqX k X.K H a xs) (h' : SqX k X.K H a ys) : xs = ys := by
  cases k with
  | true => exact I.list_inj h h'
  | false => exact I.tuple_inj h h'
end
def ItzX (K : PySem.W.Frag) (k1 k2 : Bool) (a b : Addr) : It where
  go i H := ∃ xs ys x y, SqX k1 K H a xs ∧ SqX k2 K H b ys ∧ xs[i]? = some x ∧ ys[i]? = some y
  yld i H v H' := ∃ T x y, v = .ref T ∧ H T = none ∧ H' = upd H T (.tup [x, y]) ∧ (∀ xs, SqX k1 K H a xs → xs[i]? = some x) ∧ ∀ ys, SqX k2 K H b ys → ys[i]? = some y
  stop i H := ∃ xs ys : List V, SqX k1 K H a xs ∧ SqX k2 K H b ys ∧ i ≤ xs.length ∧ i ≤ ys.length ∧ (i = xs.length ∨ i = ys.length)
def ZSt (k1 k2 : Bool) (a b z TI TO i1 i2 : Addr) (i : Nat) (h : Heap) : Prop := IsZip h z TI TO .none ∧ IsPair h TI (.ref i1) (.ref i2) ∧ (∃ x y, IsPair h TO x y) ∧ IterX k1 h i1 a i ∧ IterX k2 h i2 b i
theorem zsep {z TI TO i1 i2 l1 l2 : Addr} (D : ZipApart z TI TO i1 i2 l1 l2) : ZipSep2 z TI TO i1 i2 [i1, l1] [i2, l2] where
  TIz := D.TIz
  TOz := D.TOz
  TITO := D.TITO
  TIi1 := D.TIi1
  mem1 := by simp
  zf1 := by simp [D.i1z.symm, D.l1z.symm]
  Tf1 := by simp [D.TOi1, D.l1TO.symm]
  TIi2 := D.TIi2
  mem2 := by simp
  zf2 := by simp [D.i2z.symm, D.l2z.symm]
  Tf2 := by simp [D.TOi2, D.l2TO.symm]
  sep1_2 := by simp [D.i12, D.l2i1.symm]
  sep2_1 := by simp [D.i12.symm, D.l1i2.symm]
theorem five {α : Type} {c a b d e f : α} (h : c ∈ [a, b, d, e, f]) : c = a ∨ c = b ∨ c = d ∨ c = e ∨ c = f := by simpa using h
theorem turnX {P : Program} {w : World} {K : PySem.W.Frag} {elts : List Expr} {kk : Nat} {tpos : Pos} {k1 k2 : Bool} {a b z TI TO i1 i2 : Addr} (D : ZipApart z TI TO i1 i2 a b) :
    Turn P w K (.Tuple elts kk tpos) (ItzX K k1 k2 a b) [z, TI, TO, i1, i2] z (ZSt k1 k2 a b z TI TO i1 i2) where
  mem := by simp
  obj := fun i h st c hc => by
    obtain ⟨hz, hTI, ⟨x, y, hTO⟩, h1, h2⟩ := st; rcases five hc with q | q | q | q | q <;> subst q
    · exact ⟨_, hz, nofun⟩
    · exact ⟨_, hTI, nofun⟩
    · exact ⟨_, hTO, nofun⟩
    · exact h1.obj
    · exact h2.obj
  keep := fun i h h' st k => by
    obtain ⟨hz, hTI, ⟨x, y, hTO⟩, h1, h2⟩ := st; exact ⟨k z (by simp) _ hz, k TI (by simp) _ hTI, ⟨x, y, k TO (by simp) _ hTO⟩, h1.move (k i1 (by simp)), h2.move (k i2 (by simp))⟩
  item := fun X hP hw hK hc i pins s σ H E I hf st hg => by
    subst hP hw hK
    obtain ⟨hz, hTI, ⟨x0, y0, hTO⟩, h1, h2⟩ := st; obtain ⟨xs, ys, x, y, hqx, hqy, hx, hy⟩ := hg
    obtain ⟨its, rv, p, _⟩ := hqx.conc I
    obtain ⟨its2, rv2, p2, _⟩ := hqy.conc I
    have l1 := rv.length
    have l2 := rv2.length
    have b1 := (List.getElem?_eq_some_iff.mp hx).1
    have b2 := (List.getElem?_eq_some_iff.mp hy).1
    have hh : X.A.in1.handled = none := I.ok.hd hc
    refine wpAny_pyNext_zipD2_item (zsep D) (drawsX k1 hh i1 a D.l1i1 its.toArray) (drawsX k2 hh i2 b D.l2i2 its2.toArray) hz hTI hTO ⟨h1, p⟩ ⟨h2, p2⟩ (by rw [List.size_toArray]; omega) (by rw [List.size_toArray]; omega)
      fun u u2 h' tk hu hu2 z' TO' st1 st2 hT hsz hk => ⟨_, rfl, ?_⟩
    refine wpAny_letOwnedTupleGo_zip (s := { s with heap := h', toks := tk }) z' fun h'' z'' sb => ?_
    obtain ⟨v1, e1, ru⟩ := rv.get hx
    obtain ⟨v2, e2, ru2⟩ := rv2.get hy
    have e1' : its[i]? = some u := by simpa using hu
    have e2' : its2[i]? = some u2 := by simpa using hu2
    rw [e1'] at e1
    rw [e2'] at e2
    cases e1
    cases e2
    have zl := Heap.lt_size hz
    have nz : s.heap.objs.size ≠ z := Nat.ne_of_gt zl
    have far : ∀ c o, c ∉ [z, TI, TO, i1, i2] → s.heap.get? c = some o → h''.get? c = some o := fun c o hb q => by
      have n : c ≠ z ∧ c ≠ TI ∧ c ≠ TO ∧ c ≠ i1 ∧ c ≠ i2 := by simpa using hb
      rw [sb.2 _ n.1]
      exact hk c o n.1 n.2.2.1 n.2.2.2.1 n.2.2.2.2 q
    have T' : h''.get? s.heap.objs.size = some { cls := .type "tuple", data := .seq #[u, u2] } := by rw [sb.2 _ nz]; exact hT
    have J := I.turnedNew (t' := tk) (ob := .tup [x, y]) far hf (Nat.le_refl _) ⟨by show 2 ≤ sizeLine; decide, [u, u2], .cons ru (.cons ru2 .nil), ⟨_, T', rfl, _, rfl⟩⟩
    refine ⟨.ref s.heap.objs.size, _, J, rfl, ⟨_, x, y, rfl, I.hok.fresh (Nat.le_refl _), rfl, fun l hl => by rw [hl.same I hqx]; exact hx, fun l hl => by rw [hl.same I hqy]; exact hy⟩, ⟨z'', ?_, ⟨u, u2, ?_⟩, ?_, ?_⟩, fun c hcm => ?_⟩
    · show h''.get? TI = _
      rw [sb.2 _ D.TIz]; exact hk _ _ D.TIz D.TITO D.TIi1 D.TIi2 hTI
    · show h''.get? TO = _
      rw [sb.2 _ D.TOz]; exact TO'
    · exact st1.1.move fun o q => by rw [sb.2 _ D.i1z]; exact q
    · exact st2.1.move fun o q => by rw [sb.2 _ D.i2z]; exact q
    · have : ∃ o, s.heap.get? c = some o := by
        rcases five hcm with q | q | q | q | q <;> subst q
        · exact ⟨_, hz⟩
        · exact ⟨_, hTI⟩
        · exact ⟨_, hTO⟩
        · obtain ⟨o, e, _⟩ := h1.obj; exact ⟨o, e⟩
        · obtain ⟨o, e, _⟩ := h2.obj; exact ⟨o, e⟩
      obtain ⟨o, e⟩ := this
      rw [upd_ne (Nat.ne_of_lt (Heap.lt_size e))]
      exact (hf c hcm).1
  done := fun X hP hw hK hc i pins s σ H E I hf st hg => by
    subst hP hw hK
    obtain ⟨hz, hTI, ⟨x0, y0, hTO⟩, h1, h2⟩ := st; obtain ⟨xs, ys, hqx, hqy, le1, le2, hend⟩ := hg
    obtain ⟨its, rv, p, _⟩ := hqx.conc I
    obtain ⟨its2, rv2, p2, _⟩ := hqy.conc I
    have l1 := rv.length
    have l2 := rv2.length
    have hh : X.A.in1.handled = none := I.ok.hd hc
    refine wpAny_pyNext_zipD2_end (zsep D) (drawsX k1 hh i1 a D.l1i1 its.toArray) (drawsX k2 hh i2 b D.l2i2 its2.toArray) hz hTI hTO ⟨h1, p⟩ ⟨h2, p2⟩ (by rw [List.size_toArray]; omega) (by rw [List.size_toArray]; omega) (by simp only [List.size_toArray]; omega)
      fun h' tk hk => ⟨rfl, I.turnedL (t' := tk) (ch := [z, TI, TO, i1, i2]) (fun c o hb q => ?_) hf⟩
    have n : c ≠ z ∧ c ≠ TI ∧ c ≠ TO ∧ c ≠ i1 ∧ c ≠ i2 := by simpa using hb
    exact hk c o n.1 n.2.2.1 n.2.2.2.1 n.2.2.2.2 q
  self := fun _ _ _ _ _ st h => wpAny_pyIter_zip st.1 h
def iZipX (K : PySem.W.Frag) (ta : TA) : TI := fun σ H R => ta σ H fun vs H1 => ∃ k1 k2 a b xs ys, vs = [.ref a, .ref b] ∧ SqX k1 K H1 a xs ∧ SqX k2 K H1 b ys ∧ R (ItzX K k1 k2 a b) H1
theorem pi_zipX {X : Cx} {e e2 : Expr} {ta : TA} {p pos tpos : Pos} {elts : List Expr} {kk : Nat} (hg : Gl X "zip") (hm : X.mg "zip" = none) (ha : PA X [e, e2] ta) (hs : starEach [e, e2] X.env = (false, eval e X.env) :: starEach [e2] X.env := by rfl) (hpl : (backTo pos (starEach [e2] X.env)).any (·.1) = false := by rfl) :
    PI X (.Tuple elts kk tpos) (.Call (.Name "zip" p) [e, e2] [] pos) (iZipX X.K ta) := ⟨fun pins s σ H R I h => by
  refine Call_ (ld_blt I hg hm PyProof.Rows.boot_zip (PyProof.Rows.callWith_type1 (thn (ha.run pos pins s σ H _ I h) fun us s1 hz => ?_) hs hpl))
  obtain ⟨vs, H1, I1, r1, k1, k2, a, b, xs, ys, rfl, hqx, hqy, q⟩ := hz
  have e' : us = [.ref a, .ref b] := by
    cases r1 with
    | cons r rr => cases rr with
      | cons r' rr => cases rr; cases r; cases r'; rfl
  subst e'
  obtain ⟨its, rv, p1, la⟩ := hqx.conc I1
  obtain ⟨its2, rv2, p2, lb⟩ := hqy.conc I1
  refine zip_begins2 (beginsX k1 a its.toArray) (beginsX k2 b its2.toArray) p1 p2 fun h' hz hTI hTO h1 h2 hsz hk => wpAny_pyIter_zip hz ?_
  refine ⟨_, _, _, _, H1, rfl, I1.kept (t' := s1.toks) hk, turnX (PySem.W.ktu_apart s1.heap.objs.size a b la lb), ⟨hz, hTI, ⟨_, _, hTO⟩, .new k1 h1, .new k2 h2⟩, fun c hcm => ?_, q⟩; have hle : s1.heap.objs.size ≤ c := by
    rcases five hcm with z | z | z | z | z <;> subst z
    · exact Nat.le_add_right _ _
    · exact Nat.le_add_right _ _
    · exact Nat.le_add_right _ _
    · exact Nat.le_refl _
    · exact Nat.le_add_right _ _
  exact I1.fpOk hle (I1.hok.fresh hle)⟩
/-- the items of a list or of a tuple -/
def seqD : D → Option (List D)
  | .list ds => some ds
  | .tuple ds => some ds
  | _ => none
def pairsD : List Ar → Option (List D)
  | [.dat d1, .dat d2] => (seqD d1).bind fun xs => (seqD d2).map fun ys => List.zipWith (fun x y => .tuple [x, y]) xs ys
  | _ => none
theorem pairsD_inv {as : List Ar} {ds : List D} (h : pairsD as = some ds) : ∃ d1 d2 xs ys, as = [.dat d1, .dat d2] ∧ seqD d1 = some xs ∧ seqD d2 = some ys ∧ ds = List.zipWith (fun x y => .tuple [x, y]) xs ys := by
  unfold pairsD at h
  split at h
  · obtain ⟨xs, e1, h⟩ := Option.bind_eq_some_iff.mp h
    obtain ⟨ys, e2, h⟩ := Option.map_eq_some_iff.mp h
    exact ⟨_, _, xs, ys, rfl, e1, e2, h.symm⟩
  · cases h
def mZip (m1 m2 : M Rv) : M (List D) := M.bind (mArgs [m1, m2]) fun as => M.lift (pairsD as)
theorem seqD_rp {K : PySem.W.Frag} {Hf : Hp} {d : D} {xs : List D} {v : V} (e : seqD d = some xs) (h : Rp K Hf d v) : ∃ k a vs, v = .ref a ∧ (∀ H, Same Hf H → SqX k K H a vs) ∧ RpL K Hf xs vs := by
  cases d with
  | list ds =>
    cases e
    simp only [Rp] at h
    obtain ⟨a, vs, rfl, h1, h2⟩ := h
    exact ⟨true, a, vs, rfl, fun H s => by unfold SqX; exact Same.sqL s h1, h2⟩
  | tuple ds =>
    cases e
    simp only [Rp] at h
    obtain ⟨a, vs, rfl, h1, h2⟩ := h
    exact ⟨false, a, vs, rfl, fun H s => by unfold SqX; exact Same.sqT s h1, h2⟩
  | _ => cases e
theorem itok_zip {K : PySem.W.Frag} {Hf : Hp} {k1 k2 : Bool} {a b : Addr} {vs ws : List V} {xs ys : List D} (h1 : ∀ H, Same Hf H → SqX k1 K H a vs) (h2 : RpL K Hf xs vs) (h3 : ∀ H, Same Hf H → SqX k2 K H b ws) (h4 : RpL K Hf ys ws) :
    ItOk K (ItzX K k1 k2 a b) Hf (List.zipWith (fun x y => .tuple [x, y]) xs ys) where
  go := fun i H s hi => by
    rw [List.length_zipWith] at hi
    obtain ⟨x, e, _⟩ := h2.get (List.getElem?_eq_getElem (show i < xs.length by omega))
    obtain ⟨y, e', _⟩ := h4.get (List.getElem?_eq_getElem (show i < ys.length by omega))
    exact ⟨vs, ws, x, y, h1 H s, h3 H s, e, e'⟩
  yld := fun i H x H' d s e y => by
    obtain ⟨T, u, v, rfl, hT, rfl, q1, q2⟩ := y
    rw [List.getElem?_zipWith] at e
    cases e1 : xs[i]? with
    | none => rw [e1] at e; cases e
    | some dx =>
      cases e2 : ys[i]? with
      | none => rw [e1, e2] at e; cases e
      | some dy =>
        rw [e1, e2] at e
        cases e
        obtain ⟨u', z1, r1⟩ := h2.get e1
        obtain ⟨v', z2, r2⟩ := h4.get e2
        have z3 := q1 vs (h1 H s)
        have z4 := q2 ws (h3 H s)
        rw [z1] at z3
        rw [z2] at z4
        cases z3
        cases z4
        exact .inr ⟨T, _, _, rfl, hT, rfl, rfl, RpL.cons r1 (RpL.cons r2 RpL.nil)⟩
  stop := fun i H s hi => by
    have l1 := h2.length
    have l2 := h4.length
    rw [List.length_zipWith] at hi
    exact ⟨vs, ws, h1 H s, h3 H s, by omega, by omega, by omega⟩
section
variable {X : Cx} {E : WX}
theorem ei_zip {e e2 : Expr} {m1 m2 : M Rv} {p pos tpos : Pos} {elts : List Expr} {kk : Nat} (hg : Gl X "zip") (hm : X.mg "zip" = none) (ha : EV X E e m1) (hb : EV X E e2 m2)
    (hs : starEach [e, e2] X.env = (false, eval e X.env) :: starEach [e2] X.env := by rfl) (hs2 : starEach [e2] X.env = (false, eval e2 X.env) :: starEach [] X.env := by rfl) (hpl : (backTo pos (starEach [e2] X.env)).any (·.1) = false := by rfl) :
    EI X E (.Tuple elts kk tpos) (.Call (.Name "zip" p) [e, e2] [] pos) (mZip m1 m2) :=
  PI.conv (pi_zipX hg hm (ea_cons ha (ea_cons hb ea_nil hs2) hs) hs hpl) fun σ H R q => by
    obtain ⟨ba, O, Hf, s, R0, F⟩ := q
    refine ⟨ba, O, Hf, s, R0, F.bind.imp (fun as s1 F1 vs H1 Hf1 R1 e1 ok1 => ?_) fun x s' q => q⟩
    obtain ⟨ds, ed, F2⟩ := F1.lift
    obtain ⟨d1, d2, xs, ys, rfl, e2, e3, rfl⟩ := pairsD_inv ed
    obtain ⟨v, r, rfl, r1, v', r', rfl, r2, rfl⟩ := ok1
    obtain ⟨k1, a, us, rfl, q1, p1⟩ := seqD_rp e2 r1
    obtain ⟨k2, b, ws, rfl, q2, p2⟩ := seqD_rp e3 r2
    exact ⟨k1, k2, a, b, us, ws, rfl, q1 H1 R1.reg.sub, q2 H1 R1.reg.sub, F2 _ H1 Hf1 R1 e1 (itok_zip q1 p1 q2 p2)⟩
end
end Pu
/-! Pu13: sorted; len(set(..)). -/
namespace Pu
open PySem PySem.Spec PyProof.Rows L2
/-! ### sorted -/
theorem SeqX.obj {k : Bool} {h : Heap} {a : Addr} {its : Array Value} (x : SeqX k h a its) : ∃ T o n, (T = "list" ∨ T = "tuple") ∧ h.get? a = some o ∧ o.cls = .type T ∧ o.data = .seq its n := by
  cases k with
  | true => obtain ⟨o, e, c, n, d⟩ := x; exact ⟨"list", o, n, .inl rfl, e, c, d⟩
  | false => obtain ⟨o, e, c, n, d⟩ := x; exact ⟨"tuple", o, n, .inr rfl, e, c, d⟩
def encD (p : D × V) : D := p.1
theorem sorted_any {prog : Program} {w : World} {A : Around} {E : Value → Shared → Prop} {s : Shared} {k : Bool} {l : Addr} {us : List Value} {bs : List (D × V)} {Q : Value → Shared → Prop} (hl : SeqX k s.heap l us.toArray)
    (e : PySem.W.EachIs (fun u (p : D × V) => RelV p.2 u) us bs) (er : PySem.W.EachIs (fun u p => ∃ as, Reads s.heap u (encD p) as) us bs) (hal : PySem.W.AllAlike (bs.map encD)) (hk : PySem.W.Sortable (bs.map encD)) (hL : us.length ≤ sizeLine) (hu : ∀ d, d ∈ bs.map encD → A.units + 2 + d.depth < cLine)
    (h : ∀ (h1 h' : Heap) (c : Nat) (out : List Value), (∀ b o, s.heap.get? b = some o → h1.get? b = some o) → (∀ b o, h1.get? b = some o → h'.get? b = some o) → h'.get? h1.objs.size = some (seqObj "list" (List.toArray out) c) → PySem.W.EachIs (fun u (p : D × V) => RelV p.2 u) out (bs.mergeSort (PySem.W.dataLe false encD)) → Q (.ref h1.objs.size) { s with heap := h' }) : wpAny (model prog w) A (call (.builtin "sorted") [.ref l]) Q E s := by
  obtain ⟨T, o, n, hT, ho, hc, hd⟩ := hl.obj
  refine call_function_entry_kw kind_sorted plain_sorted entry_sorted (args_sorted1 _) ?_
  unfold Builtin.«sorted»
  refine wpAny_bind (m := checkCount "sorted" 1 1 _) (wpAny_pure ?_); refine wpAny_bind (wpAny_collect_seq l hT ho hc hd (fun h1 k1 => ?_) (by rw [List.size_toArray]; exact hL))
  refine wpAny_bind (wpAny_newList ?_ hL); have at1 : (h1.push (seqObj "list" us.toArray 0)).get? h1.objs.size = some (seqObj "list" us.toArray 0) := Heap.get?_push_size _ rfl
  have k2 : ∀ b o, h1.get? b = some o → (h1.push (seqObj "list" us.toArray 0)).get? b = some o := fun b o q => Heap.get?_push_of_some _ q
  refine wpAny_bind (wpAny_holding (wpAny_call_entry_kw slot_list_sort ⟨_, at1, rfl⟩ entry_list_sort ?_ (args_list_sort _)))
  have er' : PySem.W.EachIs (fun u p => ∃ as, Reads (PySem.W.sortingHeap (h1.push (seqObj "list" us.toArray 0)) h1.objs.size us) u (encD p) as) us bs := er.mono fun _ _ ⟨as, r⟩ => ⟨as, PyProof.Rows.Reads.keeps (fun b o q => PySem.W.sortingHeap_old (Nat.ne_of_lt (Heap.lt_size (k1 b o q))) (k2 b o (k1 b o q))) r⟩
  refine PySem.W.list_sort_vals (s := { s with heap := h1.push (seqObj "list" us.toArray 0) }) at1 (PySem.W.SortsAt.data (s := { s with heap := PySem.W.sortingHeap (h1.push (seqObj "list" us.toArray 0)) h1.objs.size us }) (PySem.W.each_map (R := fun v d => ∃ as, Reads _ v d as) encD er') hal hk hu) hL ?_
  refine ⟨_, rfl, wpAny_pure ⟨_, rfl, ?_⟩⟩
  obtain ⟨c, hat⟩ := sortedHeap_at (h := h1.push (seqObj "list" us.toArray 0)) (a := h1.objs.size) (vs := us) (out := (PySem.W.sortVals (PySem.W.dataKind _ (bs.map encD)) false us us).toArray) at1
  refine h h1 _ c _ k1 (fun b o q => ?_) hat (PySem.W.sortVals_data false e er' hal)
  rw [sortedHeap_old (Nat.ne_of_lt (Heap.lt_size q)) (Heap.lt_size (k2 b o q))]
  exact k2 b o q
def rpP (K : PySem.W.Frag) (H : Hp) (p : D × V) : Prop := Rp K H p.1 p.2
theorem RpL.zip {K : PySem.W.Frag} {H : Hp} : ∀ {ds : List D} {vs : List V}, RpL K H ds vs → ∃ bs : List (D × V), bs.map encD = ds ∧ bs.map (·.2) = vs ∧ ∀ p ∈ bs, rpP K H p
  | [], vs, h => ⟨[], rfl, by rw [h.nil_inv]; rfl, nofun⟩
  | d :: ds, vs, h => by
    obtain ⟨v, r, rfl, h1, h2⟩ := h.cons_inv
    obtain ⟨bs, e1, e2, e3⟩ := RpL.zip h2
    refine ⟨(d, v) :: bs, by rw [List.map_cons, e1]; rfl, by rw [List.map_cons, e2], fun p hp => ?_⟩
    rcases (List.mem_cons.mp hp) with rfl | hp
    · exact h1
    · exact e3 p hp
theorem RpL.unzip {K : PySem.W.Frag} {H : Hp} : ∀ {bs : List (D × V)}, (∀ p ∈ bs, rpP K H p) → RpL K H (bs.map encD) (bs.map (·.2))
  | [], _ => RpL.nil
  | p :: bs, h => RpL.cons (h p (List.mem_cons_self ..)) (RpL.unzip fun q hq => h q (List.mem_cons_of_mem _ hq))
theorem each_vals : ∀ {bs : List (D × V)} {us : List Value}, Vals (bs.map (·.2)) us → PySem.W.EachIs (fun u (p : D × V) => RelV p.2 u) us bs
  | [], _, .nil => .nil
  | p :: bs, _, .cons r t => .cons r (each_vals t)
theorem vals_each : ∀ {bs : List (D × V)} {us : List Value}, PySem.W.EachIs (fun u (p : D × V) => RelV p.2 u) us bs → Vals (bs.map (·.2)) us
  | _, _, .nil => .nil
  | _, _, .cons r t => .cons r (vals_each t)
def sortB (ds : List D) : Bool := ds.all (fun a => ds.all fun b => PySem.W.alike a b) && (ds.all (fun d => match d with | .tuple (_ :: _) => true | _ => false) || ds.all (fun d => match d with | .none => false | .tuple _ => false | _ => true)) && ds.all okD
def sortD (ds : List D) : List D := ds.mergeSort (PySem.W.dataLe false id)
theorem sortB_inv {ds : List D} (h : sortB ds = true) : PySem.W.AllAlike ds ∧ PySem.W.Sortable ds ∧ ∀ d ∈ ds, d.plain = true ∧ d.depth ≤ 50 := by
  unfold sortB at h
  simp only [Bool.and_eq_true, List.all_eq_true, Bool.or_eq_true] at h
  obtain ⟨⟨h1, h2⟩, h3⟩ := h
  refine ⟨fun a ha b hb => h1 a ha b hb, ?_, fun d hd => ?_⟩
  · rcases h2 with h2 | h2
    · refine .inl fun d hd => ?_
      have q := h2 d hd
      split at q
      · exact ⟨_, _, rfl⟩
      · cases q
    · refine .inr fun d hd => ?_
      have q := h2 d hd
      constructor
      · rintro rfl; cases q
      · rintro xs rfl; cases q
  · have q := h3 d hd
    simpa only [okD, Bool.and_eq_true, decide_eq_true_eq] using q
def dSorted (d : D) : Option Rs := (seqD d).bind fun ds => if sortB ds then some (.fresh (sortD ds)) else none
def rSortedD (K : PySem.W.Frag) : List V → Hp → VK → Prop := fun xs H Q => ∃ k a vs Hf ds, xs = [.ref a] ∧ SqX k K H a vs ∧ Same Hf H ∧ RpL K Hf ds vs ∧ sortB ds = true ∧ ∀ p ws, H p = none → RpL K Hf (sortD ds) ws → Q (.ref p) (upd H p (.lst ws))
section
variable {X : Cx}
theorem brp_seq {K : PySem.W.Frag} {Hf H : Hp} {d : D} {v : V} {ds : List D} (e : Same Hf H) (h : BRp K Hf H d v) (q : seqD d = some ds) : ∃ k a vs, v = .ref a ∧ SqX k K H a vs ∧ RpL K Hf ds vs := by
  cases d with
  | list es =>
    cases q
    obtain ⟨a, vs, rfl, h1, h2⟩ := brp_list e h
    exact ⟨true, a, vs, rfl, by unfold SqX; exact h1, h2⟩
  | tuple es =>
    cases q
    obtain ⟨a, vs, rfl, h1, h2⟩ := brp_tup e h
    exact ⟨false, a, vs, rfl, by unfold SqX; exact h1, h2⟩
  | _ => cases q
theorem o1_sorted : Op1 X.K (fun v => rSortedD X.K [v]) dSorted := by
  intro Hf H d x res Q e b er q
  obtain ⟨ds, e1, er⟩ := Option.bind_eq_some_iff.mp er
  split at er
  · cases er
    obtain ⟨k, a, vs, rfl, h1, h2⟩ := brp_seq e b e1
    exact ⟨k, a, vs, Hf, ds, rfl, h1, e, h2, by assumption, fun p ws hp hw => q _ _ (.lst hp hw)⟩
  · cases er
theorem call_sortedD (hu : X.A.units + 64 < cLine) : CallR X (.builtin "sorted") (rSortedD X.K) := by
  intro pins s σ H xs us Q I r h; obtain ⟨k, a, vs, Hf, ds, rfl, hq, e, hr, hs, q⟩ := h
  obtain ⟨u, rfl, rx⟩ := vals1 r; cases rx
  obtain ⟨its, rv, p, _⟩ := hq.conc I
  obtain ⟨bs, e1, e2, e3⟩ := hr.zip
  obtain ⟨s1, s2, s3⟩ := sortB_inv hs
  subst e1; have hz : vs.length ≤ sizeLine := by
    cases k with
    | true => obtain ⟨_, _, _, z⟩ := I.list hq; exact z
    | false => obtain ⟨_, _, _, z⟩ := I.tuple hq; exact z
  have rv' : Vals (bs.map (·.2)) its := by rw [e2]; exact rv
  have er : ∀ {bs : List (D × V)} {its : List Value}, Vals (bs.map (·.2)) its → (∀ p ∈ bs, rpP X.K Hf p) → (∀ d ∈ bs.map encD, d.plain = true ∧ d.depth ≤ 50) → PySem.W.EachIs (fun u p => ∃ as, Reads s.heap u (encD p) as) its bs := by
    intro bs
    induction bs with
    | nil => intro its r _ _; cases r; exact .nil
    | cons p bs ih =>
      intro its r h1 h2
      cases r with
      | cons r t =>
        exact .cons (reads_of I e p.1 p.2 _ (h1 p (List.mem_cons_self ..)) r (h2 p.1 (List.mem_cons_self ..)).1) (ih t (fun q hq => h1 q (List.mem_cons_of_mem _ hq)) fun d hd => h2 d (List.mem_cons_of_mem _ hd))
  refine sorted_any p (each_vals rv') (er rv' e3 s3) s1 s2 (by rw [← rv.length]; exact hz) (fun d hd => by have := (s3 d hd).2; omega) fun h1 h' c out k1 k2 hat ho => ?_
  have I1 : Inv X pins σ H { s with heap := h1 } := I.kept (t' := s.toks) k1
  have rs : RpL X.K Hf (sortD (bs.map encD)) ((bs.mergeSort (PySem.W.dataLe false encD)).map (·.2)) := by
    have : sortD (bs.map encD) = (bs.mergeSort (PySem.W.dataLe false encD)).map encD := by
      unfold sortD
      exact (PySem.W.sort_maps encD fun a _ b _ => rfl).symm
    rw [this]
    exact RpL.unzip fun p hp => e3 p ((List.mergeSort_perm _ _).mem_iff.mp hp)
  have hl2 : ((bs.mergeSort (PySem.W.dataLe false encD)).map (·.2)).length ≤ sizeLine := by
    rw [List.length_map, List.length_mergeSort]
    rw [← e2, List.length_map] at hz
    exact hz
  have I2 := I1.laid (t' := s.toks) (h' := h') (o := .lst ((bs.mergeSort (PySem.W.dataLe false encD)).map (·.2))) k2 (Nat.le_refl _) ⟨hl2, out, c, vals_each ho, hat⟩
  exact ⟨.ref h1.objs.size, _, I2, rfl, q _ _ (I1.hok.fresh (Nat.le_refl _)) rs⟩
end
/-! ### len(set(xs)), xs a tuple or a list of whole numbers -/
def intsD : List D → Option (List Int)
  | [] => some []
  | .int i :: r => (intsD r).map (i :: ·)
  | _ :: _ => none
def onceI : List Int → List Int
  | [] => []
  | i :: r => if i ∈ r then onceI r else i :: onceI r
theorem onceI_mem : ∀ (ns : List Int) (i : Int), i ∈ onceI ns ↔ i ∈ ns
  | [], i => Iff.rfl
  | n :: ns, i => by
    unfold onceI
    split
    · rename_i h
      rw [onceI_mem ns i, List.mem_cons]
      exact ⟨.inr, fun z => z.elim (fun z => z ▸ h) id⟩
    · rw [List.mem_cons, List.mem_cons, onceI_mem ns i]
theorem onceI_nodup : ∀ ns : List Int, (onceI ns).Nodup
  | [] => List.nodup_nil
  | n :: ns => by
    unfold onceI
    split
    · exact onceI_nodup ns
    · rename_i h
      exact List.nodup_cons.mpr ⟨fun z => h ((onceI_mem ns n).mp z), onceI_nodup ns⟩
theorem nodup_le {α : Type} [DecidableEq α] : ∀ {a b : List α}, a.Nodup → (∀ x ∈ a, x ∈ b) → a.length ≤ b.length
  | [], b, _, _ => Nat.zero_le b.length
  | x :: a, b, h, s => by
    have hx := s x (List.mem_cons_self ..)
    have h' := List.nodup_cons.mp h; have ih := nodup_le (b := b.erase x) h'.2 fun y hy => by
      have ne : y ≠ x := fun e => h'.1 (e ▸ hy)
      exact (List.mem_erase_of_ne ne).mpr (s y (List.mem_cons_of_mem _ hy))
    rw [List.length_erase_of_mem hx] at ih
    have : 0 < b.length := List.length_pos_of_mem hx
    rw [List.length_cons]
    omega
def dLenSet (d : D) : Option Rs := match d with
  | .tuple ds => (intsD ds).bind fun ns => if ns.length ≤ 4000 then some (.dat (.int (onceI ns).length)) else none
  | _ => none
theorem ints_rp {K : PySem.W.Frag} {Hf : Hp} : ∀ {ds : List D} {vs : List V} {ns : List Int}, intsD ds = some ns → RpL K Hf ds vs → vs = ns.map V.int
  | [], vs, ns, e, h => by
    cases e
    rw [h.nil_inv]; rfl
  | d :: ds, vs, ns, e, h => by
    obtain ⟨v, r, rfl, h1, h2⟩ := h.cons_inv
    cases d with
    | int i =>
      obtain ⟨ms, e1, rfl⟩ := Option.map_eq_some_iff.mp e
      rw [ints_rp e1 h2, List.map_cons, rp_int h1]
    | _ => cases e
section
variable {X : Cx} {E : WX}
def tLenSetT (K : PySem.W.Frag) (ta : TE) : TE := fun σ H Q => ta σ H fun x H1 => ∃ (l : Addr) (ns : List Int), x = .ref l ∧ SqT K H1 l (ns.map V.int) ∧ ns.length ≤ 4000 ∧ Q (.int ((onceI ns).length : Nat)) H1
theorem pe_lenSetT {a : Expr} {ta : TE} {p p2 q pos : Pos} (hg : Gl X "len") (hm : X.mg "len" = none) (hg2 : Gl X "set") (hm2 : X.mg "set" = none) (ha : PE X a ta) (hc : X.calm = true)
    (na : starEach [a] X.env = (false, eval a X.env) :: starEach [] X.env := by rfl) : PE X (.Call (.Name "len" p) [.Call (.Name "set" p2) [a] [] q] [] pos) (tLenSetT X.K ta) := ⟨fun pins s σ H Q I h => by
  refine Call_ (ld_blt I hg hm boot_len (PyProof.Rows.callWith_builtin1 (PyProof.Rows.args_cons ?_ rfl) rfl rfl))
  refine Call_ (ld_blt I hg2 hm2 boot_set (PyProof.Rows.callWith_type1 (PyProof.Rows.args_cons (thn (ha.run pins s σ H _ I h) fun v s1 hz => PyProof.Rows.args_nil ?_) na) na rfl))
  obtain ⟨x, H1, I1, r1, l, ns, rfl, hq, hl, q1⟩ := hz
  cases r1
  obtain ⟨its, rv, pl, _⟩ := I1.tuple hq
  have hb : ns.length + 1 < scanBound := by unfold scanBound; omega
  refine call_set_tupI ns (I1.ok.hd hc) pl (by simpa using RZ.intsAre_vals rv) hb fun h' tk c hS hcn hk => PyProof.Rows.args_nil ?_
  obtain ⟨o, es, ep, t, ho, hex, hd, hge, hnd, hmem, hsz, hf, hn, _⟩ := hS
  have hlen : es.size = (onceI ns).length := by
    have e1 := nodup_le hnd (b := onceI ns) fun k hk => (onceI_mem ns k).mpr (by simpa using (hmem k).mpr hk)
    have e2 := nodup_le (onceI_nodup ns) (b := es.toList.map keyOf) fun k hk => (hmem k).mp (by simpa using (onceI_mem ns k).mp hk)
    have e3 : (es.toList.map keyOf).length = es.size := by rw [List.length_map, Array.length_toList]
    omega
  have I2 : Inv X pins σ H1 { s1 with heap := h', toks := tk } := I1.kept hk; exact call_len_set ho hex hd hf (by omega) ⟨.int _, H1, I2.tok _, ⟨_, by rw [hlen]⟩, q1⟩⟩
theorem ev_lenSet {a : Expr} {m : M Rv} {p p2 q pos : Pos} (hg : Gl X "len") (hm : X.mg "len" = none) (hg2 : Gl X "set") (hm2 : X.mg "set" = none) (ha : EV X E a m) (hc : X.calm = true)
    (na : starEach [a] X.env = (false, eval a X.env) :: starEach [] X.env := by rfl) : EV X E (.Call (.Name "len" p) [.Call (.Name "set" p2) [a] [] q] [] pos) (mUn dLenSet m) :=
  PE.conv (pe_lenSetT hg hm hg2 hm2 ha hc na) fun σ H Q q => un_conv (r := fun x H1 Q => ∃ (l : Addr) (ns : List Int), x = .ref l ∧ SqT X.K H1 l (ns.map V.int) ∧ ns.length ≤ 4000 ∧ Q (.int ((onceI ns).length : Nat)) H1) (by
    intro Hf H d x res Q e b er q
    cases d with
    | tuple ds =>
      obtain ⟨ns, e1, er⟩ := Option.bind_eq_some_iff.mp er
      split at er
      · cases er
        obtain ⟨a, vs, rfl, h1, h2⟩ := brp_tup e b
        rw [ints_rp e1 h2] at h1
        exact ⟨a, ns, rfl, h1, by assumption, q _ _ (.old (by simp only [Rp]))⟩
      · cases er
    | _ => cases er) q
end
end Pu
/-! Pu14: an own exception whose __init__ hands its two arguments on to super() and keeps them as fields. -/
namespace Pu
open PySem PySem.Spec PyProof.Rows L2
/-- what the written part says of such a class -/
structure ExcI (P : Program) (K : PySem.W.Frag) (C fI : Addr) (name qual : Str) (params : Arguments) (body : List Stmt) (scope : Scope) : Prop where
  oex : OexC K C
  fnd : PySem.W.findIn K (.ref C) "__init__" = some (some (.ref fI))
  isf : PySem.W.typeIn K (.ref fI) = some (.type "function")
  fn : ∃ oc od osl kV doc pm an cda ct cc, K.lookup fI = some ⟨oc, od, .func (PySem.W.ksFn name qual params body scope .none kV doc pm an (.ref cda) ct cc), osl⟩ ∧ PySem.W.codeIn K (.ref cda) qual = true ∧
    (∃ ccl cdd vs ccs file tf, K.lookup cda = some ⟨ccl, cdd, .fields vs, ccs⟩ ∧ vs[2]? = some (.str file tf) ∧ ((P.main.file : Str) == file) = true) ∧ ∃ cl cld csl, K.lookup cc = some ⟨cl, cld, .cell (some (.ref C)), csl⟩
  opq : PySem.W.nsIn K cStatics "thirdparty.any" = some none
  sup : PySem.W.ks_superIn K C C "__init__" = some (some (.builtin "ValueError.__init__"))
  subB : PySem.W.subIn K (.ref C) (.type "ValueError") = some true
  self : PySem.W.mroIn K C (.ref C) = some true
def superInit (a1 a2 : Str) (p0 p1 p2 p3 p4 p5 p6 : Pos) : Stmt := .Expr (.Call (.Attribute (.Call (.Name "super" p0) [] [] p1) "__init__" p2) [.Name a1 p3, .Name a2 p4] [] p5) p6
def keepArg (a : Str) (p0 p1 p2 p3 : Pos) : Stmt := .Assign [.Attribute (.Name "self" p0) a p1] (.Name a p2) p3
theorem call_mw {P : Program} {w : World} {A : Around} {E : Value → Shared → Prop} {Q : Value → Shared → Prop} {s : Shared} {u x t0 C N : Addr} {rest : List Value} {nm q : Str} {bs bm : List Value} {hdct : Bool} {sn : List Str} {sub : List Value} {ab : Bool} {col : Option Bool} {dd : Option Addr} {k0 k1 k2 k3 k5 : Option Value}
    (hC : s.heap.get? C = some (excClassObj nm q C N bs bm hdct sn sub ab col dd k0 k1 k2 k3 k5 "ValueError.__new__")) (he : s.heap.get? x = some (PySem.W.excObj C t0 none .none)) (hu : s.heap.get? u = some (PySem.W.kxs_mw "ValueError.__init__" x)) (hz : rest.length ≤ sizeLine)
    (h : ∀ h' t1, (∀ b o, b ≠ x → s.heap.get? b = some o → h'.get? b = some o) → h'.get? x = some (PySem.W.excObj C t1 none .none) → Q .none { s with heap := h' }) : wpAny (model P w) A (call (.ref u) rest) Q E s := by
  obtain ⟨hh, g, d, tk, os⟩ := s; refine wpAny_call (codeAny_of_tree ?_)
  show wpAny _ A.in1 (callAny (.ref u) ⟨rest, []⟩) _ _ _; simp only [callAny]
  refine wpAny_bind (wpAny_load hu (PySem.W.KFB.if_so (by rfl) (wpAny_bind (PySem.W.check_bound_init F.excBase_ValueError.toExcCallFacts hC he rfl (wpAny_bind (wpAny_pure (wpAny_pure ⟨plainId_quiet F.excBase_ValueError.init.plain _, codeAny_builtin F.excBase_ValueError.initEntry ?_⟩)))))))
  exact PySem.W.exc_init_tree (cls := .ref C) (t0 := t0) (dv := none) (c2 := .none) (c3 := .none) (b4 := .bool false) he hz fun h' k e' _ => h h' _ k e'
section
open PySem.W PySem.Calls
variable {P : Program} {w : World} {A : Around} {R : Result → Shared → Prop} {s : Shared} {K : Frag} {mg : Str → Option Value} {base : Heap}
theorem exc_init {C fI x t0 : Addr} {name qual a1 a2 : Str} {params : Arguments} {scope : Scope} {v1 v2 : Value} {p0 p1 p2 p3 p4 p5 p6 q0 q1 q2 q3 r0 r1 r2 r3 : Pos}
    (T : ExcI P K C fI name qual params [superInit a1 a2 p0 p1 p2 p3 p4 p5 p6, keepArg a1 q0 q1 q2 q3, keepArg a2 r0 r1 r2 r3] scope) (M : Mod K mg base) (bk : ∀ b o, base.get? b = some o → s.heap.get? b = some o)
    (xb0 : base.get? x = none) (hsup : mg "super" = none) (hd : A.depth < recursionLimit)
    (hx : s.heap.get? x = some (excObj C t0 none .none)) (n1 : findIn K (.ref C) a1 = some none) (n2 : findIn K (.ref C) a2 = some none) (ne : a1 ≠ a2)
    (hp : (params.posonlyargs ++ params.args).head?.map (·.arg) = some "self")
    (hb : ∀ (s : Shared) kV doc pm an cdv ct cc, BindsTo s (ksFn name qual params [superInit a1 a2 p0 p1 p2 p3 p4 p5 p6, keepArg a1 q0 q1 q2 q3, keepArg a2 r0 r1 r2 r3] scope .none kV doc pm an cdv ct cc) ⟨[.ref x, v1, v2], []⟩ [(("self" : Str), .ref x), (a1, v1), (a2, v2)])
    (hs : scope.names.lookup ("self" : Str) = some .local) (h1 : scope.names.lookup a1 = some .local) (h2 : scope.names.lookup a2 = some .local) (hks : scope.names.lookup ("super" : Str) = some .globalImplicit) (hkc : scope.names.lookup ("__class__" : Str) = some .free)
    (hcell : ∀ x ∈ scope.names, x.2 ≠ .cell) (hk : scope.kind = .function) (hco : scope.isCoroutine = false) (hgen : scope.isGenerator = false) (htop : (P.main.scope.names.lookup ("super" : Str)).isSome = false)
    {pl : Sem Bool} (hev : ∀ (L f cc : Addr) (cd : Value), eval (.Call (.Attribute (.Call (.Name "super" p0) [] [] p1) "__init__" p2) [.Name a1 p3, .Name a2 p4] [] p5) (ksEnv qual scope L f cd cc) = (do
      let ov ← attributeBase (.Call (.Name "super" p0) [] [] p1) "__init__" (ksEnv qual scope L f cd cc) (eval (.Call (.Name "super" p0) [] [] p1) (ksEnv qual scope L f cd cc))
      standAt p2.atName
      let (f', first) ← holding [ov] (getMethod ov "__init__" pl)
      callWith p5 f' first (backTo p5 (starEach [.Name a1 p3, .Name a2 p4] (ksEnv qual scope L f cd cc))) []))
    (d1 : (a1 == ("__debug__" : Str)) = false) (d2 : (a2 == ("__debug__" : Str)) = false) (s1 : ("self" : Str) ≠ a1) (s2 : ("self" : Str) ≠ a2)
    (h : ∀ h' tk dx t1, (∀ b o, b ≠ x → s.heap.get? b = some o → h'.get? b = some o) → x < dx → h'.get? x = some (excObj C t1 (some dx) .none) →
      h'.Ns1 dx (fun y => if y = a2 then some v2 else if y = a1 then some v1 else none) → R (.ok (.ret .none)) { s with heap := h', toks := tk }) :
    codeAny (model P w) A (.call (.ref fI) ⟨[.ref x, v1, v2], []⟩) R s := by
  obtain ⟨sk, sn', sg, sc, sm⟩ := scope
  dsimp only at hs h1 h2 hks hkc hcell hk hco hgen
  subst hk hco hgen
  obtain ⟨oc, od, osl, kV, doc, pm, an, cda, ct, cc, hf, hcd, ⟨ccl, cdd, vs, ccs, file, tf, hcode, hvs, hfile⟩, cl, cld, csl, hcc⟩ := T.fn
  obtain ⟨nm, q, N, bs, bm, sn, sub, ab, col, dd, k0, k1, k2, k3, k5, hC, hbm⟩ := T.oex.cls
  have X : K.In s.heap := M.kin.keeps bk
  obtain ⟨ar, har, hea⟩ := Option.map_eq_some_iff.mp hp
  refine ks_codeAny_call_defAt (fd := ksFn name qual params _ ⟨.function, sn', false, false, sm⟩ .none kV doc pm an (.ref cda) ct cc) hd (X _ _ hf) rfl (M.nolimit.keeps bk) (codeRec_of X hcd) rfl (hb _ _ _ _ _ _ _ _) hcell (fun y hy => ?_) (fun ha hns hka => ?_) rfl rfl rfl
  · rcases (show y = (("self" : Str), Value.ref x) ∨ y = (a1, v1) ∨ y = (a2, v2) from by simpa using hy) with rfl | rfl | rfl
    · exact hs
    · exact h1
    · exact h2
  have look : ∀ y, (([(("self" : Str), Value.ref x), (a1, v1), (a2, v2)] : List (Str × Value)).reverse.lookup y) = if y = a2 then some v2 else if y = a1 then some v1 else if y = ("self" : Str) then some (.ref x) else none := fun y => by
    show (match y == a2 with | true => some v2 | false => (match y == a1 with | true => some v1 | false => (match y == ("self" : Str) with | true => some (.ref x) | false => none))) = _
    by_cases e2 : y = a2
    · rw [if_pos e2, beq_iff_eq.mpr e2]
    · rw [if_neg e2, beq_eq_false_iff_ne.mpr e2]
      by_cases e1 : y = a1
      · rw [if_pos e1, beq_iff_eq.mpr e1]
      · rw [if_neg e1, beq_eq_false_iff_ne.mpr e1]
        by_cases e0 : y = ("self" : Str)
        · rw [if_pos e0, beq_iff_eq.mpr e0]
        · rw [if_neg e0, beq_eq_false_iff_ne.mpr e0]
  have hxa := hka _ _ hx
  have xlt : x < s.heap.objs.size := Heap.lt_size hx
  have Xa : K.In ha := X.keeps hka
  have ld : ∀ {A' : Around} {E : Value → Shared → Prop} {s' : Shared} {y : Str} {v : Value} {Q : Value → Shared → Prop}, s'.heap.Ns s.heap.objs.size (fun x_1 => List.lookup x_1 ([(("self" : Str), Value.ref x), (a1, v1), (a2, v2)] : List (Str × Value)).reverse) →
      sn'.lookup y = some .local → (([(("self" : Str), Value.ref x), (a1, v1), (a2, v2)] : List (Str × Value)).reverse.lookup y) = some v → Q v s' → wpAny (model P w) A' (loadName (ksEnv qual ⟨.function, sn', false, false, sm⟩ s.heap.objs.size fI (.ref cda) cc) y) Q E s' := fun {A' E s' y v Q} hn hl hv hq =>
    wpAny_loadName_local (env := ksEnv qual ⟨.function, sn', false, false, sm⟩ s.heap.objs.size fI (.ref cda) cc) rfl hl hn hv hq
  have l0 : (([(("self" : Str), Value.ref x), (a1, v1), (a2, v2)] : List (Str × Value)).reverse.lookup ("self" : Str)) = some (.ref x) := by rw [look, if_neg s2, if_neg s1, if_pos rfl]
  have l1 : (([(("self" : Str), Value.ref x), (a1, v1), (a2, v2)] : List (Str × Value)).reverse.lookup a1) = some v1 := by rw [look, if_neg ne, if_pos rfl]
  have l2 : (([(("self" : Str), Value.ref x), (a1, v1), (a2, v2)] : List (Str × Value)).reverse.lookup a2) = some v2 := by rw [look, if_pos rfl]
  obtain ⟨mb, bb, bbq⟩ := M.blt
  have kba : ∀ b o, base.get? b = some o → ha.get? b = some o := fun b o e => hka _ _ (bk _ _ e)
  refine ks_wpAt_execs_cons (ks_wpAt_Expr_any (ks_wpAt_MethodCall ?_ (hev _ _ _ _)))
  refine ks_wpAt_super_base (env := ksEnv qual ⟨.function, sn', false, false, sm⟩ s.heap.objs.size fI (.ref cda) cc) hks hkc (by decide) rfl (Xa _ _ hf) rfl har rfl (Xa _ _ hcode) rfl hvs hfile htop ?_
  refine ks_loadName_global rfl hks (loadGlobal_builtin (env := ksEnv qual ⟨.function, sn', false, false, sm⟩ s.heap.objs.size fI (.ref cda) cc) (M.glob.keeps kba) hsup (bb.keeps kba) ((bbq _ (by decide +kernel)).trans (by decide +kernel : bootBuiltins "super" = some (.type "super"))) ⟨rfl, ?_⟩)
  refine wpAny_loadName_free rfl hkc rfl ⟨_, Xa _ _ hcc, rfl⟩ ?_
  rw [hea]
  refine ld hns hs l0 ?_
  refine ks_wpAny_isType_cls (Xa _ _ hC) rfl ⟨rfl, ?_⟩
  refine ks_wpAny_call_super (Xa _ _ hC) rfl hxa rfl nofun (looks_mroIn Xa T.self) (fun hb' hso kb => ?_)
  have xb := kb _ _ hxa
  have Xb := Xa.keeps kb
  have IX : InstAt hb' x (excObj C t0 none .none) C none := ⟨xb, rfl, rfl, trivial⟩
  have hI : Looks (model P w) hb' (isInstance (.ref x) (.type "ValueError")) true := IX.type.andThen (looks_subIn Xb T.subB); have hcl : clsIn K C = some { name := nm, bases := bs, mro := .ref C :: bm, ns := N, qualname := q, hasDict := true, slotNames := sn, subclasses := sub, abstract := ab, collection := col, hasDel := false } := by unfold clsIn; rw [hC] <;> rfl
  have hsu := T.sup
  unfold ks_superIn at hsu
  rw [hcl] at hsu
  refine kxs_getMethod kxs_ValueError hso (looks_opaque Xb T.opq) (l₀ := .ref C :: bm) (fun A Q E s k q => wpAny_bind ((looks_clsIn Xb hcl) A _ E s k (wpAny_pure q))) rfl Xb hsu hI (ks_ne Xb IX hcl) (by decide) ?_
  have nsb : (hb'.push (kxs_mw "ValueError.__init__" x)).Ns s.heap.objs.size _ := (hns.keeps kb).keeps fun b o e => Heap.get?_push_of_some _ e
  refine kxs_callWith (i := "ValueError.__init__") (x := x) rfl (evalArgs_plain ?_)
  refine args_cons (wpAny_Name (ld nsb h1 l1 ?_) d1) rfl
  refine args_cons (wpAny_Name (ld nsb h2 l2 ?_) d2) rfl
  refine args_nil ⟨Heap.get?_push_size _ rfl, ?_⟩
  have kc : ∀ b o, hb'.get? b = some o → (hb'.push (kxs_mw "ValueError.__init__" x)).get? b = some o := fun b o e => Heap.get?_push_of_some _ e
  refine call_mw (Xb.keeps kc _ _ hC) (kc _ _ xb) (Heap.get?_push_size _ rfl) (by show 2 ≤ sizeLine; decide) fun hc t1 kd xd => ?_
  have xL : s.heap.objs.size ≠ x := Nat.ne_of_gt xlt
  have kall : ∀ b o, b ≠ x → s.heap.get? b = some o → hc.get? b = some o := fun b o nb e => kd b o nb (kc _ _ (kb _ _ (hka _ _ e)))
  have nsd : hc.Ns s.heap.objs.size _ := nsb.at fun o e => kd _ o xL e
  have xC : x ≠ C := ks_ne Xb IX hcl
  have nbx : ∀ b o, base.get? b = some o → b ≠ x := fun b o e z => by rw [z, xb0] at e; cases e
  have Xc : K.In hc := fun b o e => kall b o (nbx b o (M.kin _ _ e)) (X _ _ e)
  have sv : HandSPX.refsVE (.ref C :: bm) = true := hbm
  refine wpAt_of_wpAny (wpAny_execs_cons (plainObj_wpAny_Assign_Attribute (wpAny_Name (ld nsd h1 l1 ?_) d1) rfl))
  refine wpAny_Name (ld nsd hs l0 ?_) (by decide)
  refine set_plain Xc (ox := excObj C t1 none .none) (od := none) ⟨xd, rfl, rfl, trivial⟩ T.oex.sa ?_
  refine HandSPX.exc_osa (cd := { name := nm, bases := bs, mro := .ref C :: bm, ns := N, qualname := q, hasDict := true, slotNames := sn, subclasses := sub, abstract := ab, collection := col, hasDel := false }) Xc xd hcl sv rfl n1 (fun h' tk' dx k dn dne hx' hn => ?_)
  have nse : h'.Ns s.heap.objs.size _ := nsd.at fun o e => k _ o xL e
  have Xe : K.In h' := fun b o e => k b o (nbx b o (M.kin _ _ e)) (Xc _ _ e)
  refine wpAny_execs_cons (plainObj_wpAny_Assign_Attribute (wpAny_Name (ld nse h2 l2 ?_) d2) rfl)
  refine wpAny_Name (ld nse hs l0 ?_) (by decide)
  obtain ⟨oD, esD, epD, hoD, _, _⟩ := hn.count (ns := [a1]) (fun y hy => by
    by_cases e : y = a1
    · rw [e]; exact List.mem_cons_self ..
    · exact absurd (if_neg e) hy)
  refine set_plain Xe (ox := excObj C t1 (some dx) .none) (od := some oD) ⟨hx', rfl, rfl, hoD⟩ T.oex.sa ?_
  refine OEX.osa_old (cd := { name := nm, bases := bs, mro := .ref C :: bm, ns := N, qualname := q, hasDict := true, slotNames := sn, subclasses := sub, abstract := ab, collection := col, hasDel := false }) (nl := [a1]) Xe hx' hn (fun y hy => by
    by_cases e : y = a1
    · rw [e]; exact List.mem_cons_self ..
    · exact absurd (if_neg e) hy) (by show 1 ≤ 1000; decide) hcl sv rfl n2 (fun h2' tk2 k2 hn2 => ?_)
  refine wpAny_execs_nil ?_
  have dxs : s.heap.get? dx = none := by
    cases e : s.heap.get? dx with
    | none => rfl
    | some o =>
      have := Heap.lt_size (kall dx o dne e)
      exact absurd dn (Nat.not_le_of_lt this)
  have xdx : x < dx := Nat.lt_of_lt_of_le (Heap.lt_size xd) dn
  refine h h2' tk2 dx t1 (fun b o nb e => k2 b o (fun z => ?_) (k b o nb (kall b o nb e))) xdx (k2 _ _ (Ne.symm dne) hx') hn2
  rw [z, dxs] at e
  cases e
end
section
variable {X : Cx} {E : WX}
def tMk2 (C : Addr) (a1 a2 : Str) (ta : TA) : St → Hp → XK → Prop := fun σ H Q => ta σ H fun vs H1 => ∃ x y, vs = [x, y] ∧ ∀ d, H1 d = none → Q (.ref C) (some d) (upd H1 d (.xd [(a2, y), (a1, x)]))
theorem pmk_exi {C fI : Addr} {xn name qual a1 a2 : Str} {params : Arguments} {scope : Scope} {p0 p1 p2 p3 p4 p5 p6 q0 q1 q2 q3 r0 r1 r2 r3 np pos : Pos} {e1 e2 : Expr} {ta : TA} {k : Nat}
    (T : ExcI X.prog X.K C fI name qual params [superInit a1 a2 p0 p1 p2 p3 p4 p5 p6, keepArg a1 q0 q1 q2 q3, keepArg a2 r0 r1 r2 r3] scope) (hg : Gl X xn) (hm : X.mg xn = some (.ref C)) (hr : Room (k + 1) X.A) (ha : PA X [e1, e2] ta)
    (hinit : Mod X.K X.mg X.base → ∀ (A : Around) (s : Shared) (R : Result → Shared → Prop) (x t0 : Addr) (v1 v2 : Value), (∀ b o, X.base.get? b = some o → s.heap.get? b = some o) → X.base.get? x = none → A.depth < recursionLimit → s.heap.get? x = some (PySem.W.excObj C t0 none .none) →
      (∀ h' tk dx t1, (∀ b o, b ≠ x → s.heap.get? b = some o → h'.get? b = some o) → x < dx → h'.get? x = some (PySem.W.excObj C t1 (some dx) .none) →
        h'.Ns1 dx (fun y => if y = a2 then some v2 else if y = a1 then some v1 else none) → R (.ok (.ret .none)) { s with heap := h', toks := tk }) → codeAny (model X.prog X.w) A (.call (.ref fI) ⟨[.ref x, v1, v2], []⟩) R s)
    (hdb : (xn == ("__debug__" : Str)) = false := by decide) (he : starEach [e1, e2] X.env = (false, eval e1 X.env) :: starEach [e2] X.env := by rfl) (hpl : (backTo pos (starEach [e2] X.env)).any (·.1) = false := by rfl) :
    PMk X (.Call (.Name xn np) [e1, e2] [] pos) (tMk2 C a1 a2 ta) := by
  intro pins s σ H Q I h
  obtain ⟨nm, q, N, bs, bm, sn, sub, ab, col, dd, k0, k1, k2, k3, k5, hC, hbm⟩ := T.oex.cls
  refine wpAny_Call_Name_kw (ld_glob I hg hm (PySem.W.callWith_K (h₀ := X.base) I.ok.mod.kin T.oex.kC (thn (ha.run pos pins s σ H _ I h) fun us s1 hz => ?_) he hpl) hdb)
  obtain ⟨vs, H1, I1, r1, x, y, rfl, q1⟩ := hz
  refine ⟨I1.kIn, ?_⟩
  obtain ⟨u1, u2, rfl, rx, ry⟩ := vals2 r1
  obtain ⟨hp, g, dr, tk, os⟩ := s1; have up : ∀ b o, hp.get? b = some o → ((hp.push (PySem.W.kdv_tup [u1, u2])).push (PySem.HandSPX.excO C hp.objs.size)).get? b = some o := fun b o e => Heap.get?_push_of_some _ (Heap.get?_push_of_some _ e)
  have hget : ((hp.push (PySem.W.kdv_tup [u1, u2])).push (PySem.HandSPX.excO C hp.objs.size)).get? (hp.objs.size + 1) = some (PySem.HandSPX.excO C hp.objs.size) := by heap_get
  have b0 : X.base.get? (hp.objs.size + 1) = none := by
    cases e : X.base.get? (hp.objs.size + 1) with
    | none => rfl
    | some o =>
      have z1 := Heap.lt_size e
      have z2 : X.base.objs.size ≤ hp.objs.size := Nat.le_trans I1.ok.bsz I1.sz
      exact absurd (Nat.lt_of_lt_of_le z1 z2) (Nat.not_lt.mpr (Nat.le_succ _))
  have room := hr.make C [u1, u2] []
  refine wpAny_call (PySem.HandSPX.call_own F.excBase_ValueError (fun Y => PySem.HandSPX.refsVE_contains Y bm hbm) (I1.kIn _ _ hC) (PySem.W.looks_findIn I1.kIn T.fnd) (fun self => PySem.W.bind_fn I1.kIn self T.isf) (by show 2 ≤ sizeLine; decide)
    (hinit I.ok.mod _ _ _ _ hp.objs.size u1 u2 (fun b o e => up b o (I1.bk b o e)) b0 (Nat.lt_of_le_of_lt (by rw [Nat.add_assoc]; exact Nat.le_add_right _ _) room.dp) hget fun h' tk' dx t1 kk lt hx hn => ⟨rfl, ?_⟩))
  obtain ⟨G, g1, g2⟩ := restrict h' fun b => decide (b ≠ hp.objs.size + 1)
  have gk : ∀ b, b ≠ hp.objs.size + 1 → G.get? b = h'.get? b := fun b hb => g1 b (decide_eq_true hb)
  have ge : G.get? (hp.objs.size + 1) = none := g2 _ (by simp)
  have nd : dx ≠ hp.objs.size + 1 := Nat.ne_of_gt lt
  have le : hp.objs.size ≤ dx := Nat.le_of_lt (Nat.lt_of_succ_lt lt)
  have kG : ∀ b o, hp.get? b = some o → G.get? b = some o := fun b o e => by
    have nb : b ≠ hp.objs.size + 1 := Nat.ne_of_lt (Nat.lt_succ_of_lt (Heap.lt_size e))
    rw [gk b nb]
    exact kk b o nb (up b o e)
  have hn1 : H1 dx = none := I1.hok.fresh le
  have J := I1.laid (t' := tk') (h' := G) (a := dx) (o := .xd [(a2, y), (a1, x)]) kG le ⟨_, hn.at fun o e => by rw [gk dx nd]; exact e, relO_put ry (relO_put (fs := []) (mA := fun _ => none) rx fun _ => True.intro)⟩
  refine ⟨hp.objs.size + 1, _, _, ⟨G, g, dr, tk', os⟩, _, .ref C, some dx, rfl, J, fun b o e => ?_, ge, hx, ⟨rfl, rfl⟩, rfl, rfl, ?_, rfl, I1.bare, raises_own T.oex.exC T.oex.tyC, q1 dx hn1⟩
  · have nb : b ≠ hp.objs.size + 1 := fun z => by
      have e' : G.get? b = some o := e
      rw [z, ge] at e'; cases e'
    exact (gk b nb).symm.trans e
  · rw [upd_ne (Ne.symm nd)]
    exact I1.hok.fresh (Nat.le_succ _)
def mRaise (c : Str) (ns : List Str) (ms : List (M Rv)) : M Fl := M.bind (mArgs ms) fun as => M.bind (M.lift (datsOf as)) fun ds => fun s => some (s, .error ⟨c, (ns.zip ds).reverse⟩)
theorem es_raise2 {C : Addr} {xn a1 a2 : Str} {e1 e2 : Expr} {m1 m2 : M Rv} {np pos pos' : Pos} (hc : X.calm = true) (tk : Takes X E) (hm : X.mg xn = some (.ref C)) (h : ∀ ta, PA X [e1, e2] ta → PMk X (.Call (.Name xn np) [e1, e2] [] pos) (tMk2 C a1 a2 ta)) (ha : EA X E [e1, e2] [m1, m2]) :
    ES X E (.Raise (some (.Call (.Name xn np) [e1, e2] [] pos)) none pos') (mRaise xn [a1, a2] [m1, m2]) :=
  PS.conv (ps_raise hc tk (h _ ha)) fun D σ H q => by
    obtain ⟨ba, O, Hf, s, R0, F⟩ := q
    refine ⟨ba, O, Hf, s, R0, (mArgs_len F.bind).imp (fun as s1 F1 vs H1 Hf1 R1 e1 ok1 => ?_) fun x s' q => ExS.at q⟩
    obtain ⟨l, F1⟩ := F1
    obtain ⟨ds, ed, F2⟩ := F1.bind.lift
    have rl := dats_rp ok1 ed
    have hl := rl.length
    have hv : vs.length = 2 := by rw [ok1.length, l]; rfl
    match ds, vs, rl, hl, hv with
    | [d1, d2], [x, y], rl, _, _ =>
      refine ⟨x, y, rfl, fun d hd => ?_⟩
      obtain ⟨_, _, z1, r1, z2⟩ := rl.cons_inv
      cases z1
      obtain ⟨_, _, z3, r2, z4⟩ := z2.cons_inv
      cases z3
      exact F2 σ _ Hf1 _ _ (R1.grow hd) e1 ⟨hm, d, _, rfl, upd_same, rfl, RpL.cons r2 (RpL.cons r1 RpL.nil)⟩
end
end Pu
/-! Pu15: defs called within an except suite; try .. except C as n. -/
namespace Pu
open PySem PySem.Spec PyProof.Rows L2
/-- as FnG, while an exception is handled -/
structure FnK (P : Program) (w : World) (K : PySem.W.Frag) (mg : Str → Option Value) (base : Heap) (CX : CXT) (k : Nat) (f : Addr) (fd : FuncData) (ps : List Str) (sp : Sp) : Prop where
  len : ∀ us H Q E, sp us H Q E → us.length = ps.length
  go : ∀ (A : Around) (outer : List Env) (s : Shared) (H : Hp) (args : Args) (us : List Value) (vs : List V) (Q : VK) (E : XK) (p : Addr × Obj), A.guards = some [] → L2H.RoomH k A → L2H.PinOk outer H s p → Env0 P w K mg base A outer s H →
    BindsTo s fd args (ps.zip us) → Vals vs us → sp vs H Q E → codeAny (model P w) A (.call (.ref f) args) (CR CX outer P w H s Q E) s
theorem fnK_of {P : Program} {w : World} {K : PySem.W.Frag} {mg : Str → Option Value} {base : Heap} {CX : CXT} {k : Nat} {f : Addr} {x qual : Str} {st : Stmt} {fd : FuncData} {N ps : List Str} {sp : Sp}
    (F : Fun K x qual st f fd) (S : FnScope N ps (defScope st)) (hlen : ∀ vs H Q E, sp vs H Q E → vs.length = ps.length)
    (body : ∀ (cdv : Value) (A : Around) (outer : List Env) (s : Shared) (H : Hp) (vs : List V) (Q : VK) (E : XK) (p : Addr × Obj), A.guards = some [] → L2H.RoomH k (A.deeper (envOfC qual (defScope st) s.heap.objs.size f cdv)) → sp vs H Q E →
      ∃ t, PSs (L2H.cxH CX P w K mg base N qual (defScope st) f cdv A outer s H E p) (defBody st) t ∧ t { nx := fun _ H' => Q .non H', rt := Q } (start N vs) H) : FnK P w K mg base CX (k + 1) f fd ps sp := by
  obtain ⟨oc, od, kV, doc, pm, anV, cdv, ct, osl, rfl, lk, hcd⟩ := F.ex
  constructor
  · exact hlen
  · intro A outer s H args us vs Q E p hgd room pin e0 hb hv hsp
    have e1 := hlen _ _ _ _ hsp
    have hin : K.In s.heap := e0.mod.kin.keeps fun b o z => (e0.bs b o z).1
    have nl : s.heap.NoLimit := e0.mod.nolimit.keeps fun b o z => (e0.bs b o z).1
    have kinds : ∀ y ∈ ps.zip us, (defScope st).names.lookup y.1 = some .local ∨ ((defScope st).names.lookup y.1 = some .cell ∧ ((cellsFrom (s.heap.objs.size + 1) (defScope st).names []).lookup y.1).isSome = true) := by
      rintro ⟨n, v⟩ hy
      cases S.par n (List.of_mem_zip hy).1 with
      | inl q => exact Or.inl q
      | inr q => exact Or.inr ⟨q, PySem.W.cellsFrom_some _ _ _ (Or.inl q)⟩
    refine codeAny_call_function room.depth (hin _ _ lk) rfl S.co S.gen rfl (PySem.W.codeRec_of hin hcd) (hb _ _ _ _ ?_)
    refine wpAny_newFunctionEnv_cells S.kind kinds fun env ee s1 ic => ?_
    subst ee
    refine ⟨nl.keeps ic.toInCall.keep, codeAny_func ?_⟩
    obtain ⟨t, pt, q⟩ := body cdv A outer s H vs Q E p hgd (room.deeper _) hsp
    have I0 : Inv (L2H.cxH CX P w K mg base N qual (defScope st) f cdv A outer s H E p) [] (start N vs) H s1 := L2H.inv_startH S pin e0 e1 hv ic
    refine wpAny_mono (pt.run [] s1 (start N vs) H _ I0 q) (fun fl s' hs => ?_) fun e s' z => z
    have close : ∀ {σ' : L2.St} {H' : Hp} {v : V} {u : Value}, Inv (L2H.cxH CX P w K mg base N qual (defScope st) f cdv A outer s H E p) [] σ' H' s' → RelV v u → Q v H' → CE outer P w H s Q u s' := by
      intro σ' H' v u J r z
      exact ⟨v, H', J.os, J.bare, J.base, J.hok, r, z⟩
    cases fl with
    | next =>
      obtain ⟨σ', H', J, z⟩ := hs
      exact close (v := V.non) (u := Value.none) J rfl z
    | ret u =>
      obtain ⟨v, σ', H', J, r, z⟩ := hs
      exact close J r z
    | cont => exact (hs.choose_spec.choose_spec.2).elim
    | brk => exact (hs.choose_spec.choose_spec.2).elim
theorem fnMH {P : Program} {w : World} {K : PySem.W.Frag} {mg : Str → Option Value} {base : Heap} {k : Nat} {f : Addr} {x qual : Str} {st : Stmt} {fd : FuncData} {N ps : List Str} {F : Fn} {m : M Fl}
    (U : Fun K x qual st f fd) (Sc : FnScope N ps (defScope st))
    (body : ∀ (cdv : Value) (A : Around) (outer : List Env) (s : Shared) (H : Hp) (E : XK) (p : Addr × Obj), A.guards = some [] → L2H.RoomH k (A.deeper (envOfC qual (defScope st) s.heap.objs.size f cdv)) →
      ESs (L2H.cxH (L2.CX P w) P w K mg base N qual (defScope st) f cdv A outer s H E p) (fun c d _ H => E c d H) (defBody st) m)
    (hf : ∀ β as r, as.length = ps.length → F β as = some r → runDef N.length m β as = some r) : FnK P w K mg base (L2.CX P w) (k + 1) f fd ps (SpM K mg ps.length F) :=
  fnK_of U Sc (fun vs H Q E h => by
    obtain ⟨ba, O, Hf, β, as, r, β', hn, R, a, ef, post⟩ := h
    rw [a.length, hn]) fun cdv A outer s H vs Q E p hg hr h => ⟨_, body cdv A outer s H E p hg hr, def_conv hf h⟩
section
variable {X : Cx} {E : WX} {k : Nat} {f : Addr} {fd : FuncData} {ps : List Str} {sp : Sp} {x : Str} {p pos : Pos} {e : Expr} {es : List Expr} {t : TA}
def tCallK (sp : Sp) (t : TA) : TE := fun σ H Q => t σ H fun vs H1 => sp vs H1 Q fun _ _ _ => False
theorem pe_callK (G : FnK X.prog X.w X.K X.mg X.base (L2.CX X.prog X.w) k f fd ps sp) (hgd : X.A.guards = some []) (hr : L2H.RoomH k X.A) (hc : ∃ p, p ∈ X.pn) (hg : Gl X x) (hm : X.mg x = some (.ref f)) (hk : PySem.W.keepIn X.K (.ref f) = true) (hb : Binds X.K fd ps []) (ha : PA X (e :: es) t) (hdb : (x == ("__debug__" : Str)) = false := by decide) (he : starEach (e :: es) X.env = (false, eval e X.env) :: starEach es X.env := by rfl) (hpl : (backTo pos (starEach es X.env)).any (·.1) = false := by rfl) :
    PE X (.Call (.Name x p) (e :: es) [] pos) (tCallK sp t) := ⟨fun pins s σ H Q I h => by
  refine wpAny_Call_Name_kw (ld_glob I hg hm (PySem.W.callWith_K (h₀ := X.base) I.ok.mod.kin hk (thn (ha.run pos pins s σ H _ I h) fun us s1 hz => ?_) he hpl) hdb)
  obtain ⟨vs, H1, I1, r, q⟩ := hz
  obtain ⟨p, hp⟩ := hc
  have hl : us.length = ps.length := by rw [← r.length]; exact G.len _ _ _ _ q
  have b := hb s1 us I1.kIn (by rw [List.append_nil]; exact hl)
  rw [List.append_nil] at b
  obtain ⟨z1, z2, z3, z4, z5⟩ := I1.pin p (List.mem_append_left _ hp)
  refine ⟨I1.kIn, wpAny_call (codeAny_mono (G.go X.A X.stack s1 H1 ⟨us, []⟩ us vs Q _ p hgd hr ⟨z1, z2, fun hm => (List.mem_cons.mp (I1.stkSub p.1 hm)).elim z3 z4, z5⟩ I1.env0 b r q) fun r s' hq => ?_)⟩
  match r, hq with
  | .ok (.ret u), hq => exact I1.after hq
  | .error e, hq =>
    obtain ⟨_, _, _, _, _, _, _, _, _, _, _, _, z⟩ := hq
    exact z.elim⟩
end
/-! ### try .. except C as n -/
/-- the state behind the clause -/
def dropAt (i : Nat) (s : S) : S := { s with ρ := s.ρ.set i .no }
/-- a clause's meaning: x is the exception; nothing is raised there, no list of a name's own handed out -/
def mTry (i : Nat) (c : Str) (mb : M Fl) (h : Exn → M Fl) : M Fl := fun s => match mb s with
  | some (s', .error x) => if x.cls = c ∧ i < s'.ρ.length then (match h x (dropAt i s') with
    | some (s2, .ok .nx) => some (dropAt i s2, .ok .nx)
    | some (s2, .ok .bk) => some (dropAt i s2, .ok .bk)
    | some (s2, .ok .ct) => some (dropAt i s2, .ok .ct)
    | some (s2, .ok (.rt (.dat d))) => some (dropAt i s2, .ok (.rt (.dat d)))
    | _ => none) else none
  | r => r
theorem Rep.drop {K : PySem.W.Frag} {ba : Option Addr} {O Hf H : Hp} {σ : L2.St} {s : S} {i : Nat} {v : Option V} (R : Rep K ba O Hf H σ s) : Rep K ba O Hf H (σ.set i v) (dropAt i s) := by
  have nown : ∀ j ds, (dropAt i s).ρ[j]? = some (.own ds) → j ≠ i ∧ s.ρ[j]? = some (.own ds) := fun j ds e => by
    unfold dropAt at e
    by_cases q : i = j
    · subst q
      by_cases hi : i < s.ρ.length
      · rw [List.getElem?_set_self hi] at e; cases e
      · rw [List.getElem?_eq_none (by rw [List.length_set]; omega)] at e; cases e
    · rw [List.getElem?_set_ne q] at e
      exact ⟨Ne.symm q, e⟩
  refine ⟨R.reg, by unfold dropAt; simp only [List.length_set]; exact R.len, fun j sl x e1 e2 => ?_, fun j k ds es x ne e1 e2 e3 => ?_⟩
  · by_cases q : i = j
    · subst q
      unfold dropAt at e1
      by_cases hi : i < s.ρ.length
      · rw [List.getElem?_set_self hi] at e1; cases e1; trivial
      · rw [List.getElem?_eq_none (by rw [List.length_set]; omega)] at e1; cases e1
    · unfold dropAt at e1
      rw [List.getElem?_set_ne q] at e1 e2
      exact R.slot j sl x e1 e2
  · obtain ⟨n1, f1⟩ := nown j ds e1
    obtain ⟨n2, f2⟩ := nown k es e2
    rw [List.getElem?_set_ne (Ne.symm n1)] at e3
    rw [List.getElem?_set_ne (Ne.symm n2)]
    exact R.uni j k ds es x ne f1 f2 e3
section
variable {X : Cx} {E : WX}
theorem es_tryAs {x n : Str} {C : Addr} {i : Nat} {body suite : List Stmt} {b₀ : Stmt} {np pos pos' : Pos} {mb : M Fl} {hx : Exn → M Fl} {ts : Addr → Value → Option Addr → TS} (hs : X.stack = X.env :: X.outer) (hf : X.env.frame = some X.env.locals) (hN : X.N.Nodup) (hi : X.N[i]? = some n) (hln : X.env.kindOf n = some .local)
    (hg : Gl X x) (hd : (x == ("__debug__" : Str)) = false) (hm : X.mg x = some (.ref C)) (he : PySem.W.exmOne X.K (.ref C) (.ref C) = some true) (tk : Takes X E)
    (hb : ∀ (W : WX) (pn : List (Addr × Obj)) (xe : Value → Shared → Prop), Takes (X.tr pn xe) W → ESs (X.tr pn xe) W body mb)
    (hsu : ∀ (a : Addr) (oe : Obj) (cls : Value) (d : Option Addr) (pn : List (Addr × Obj)), Zc cls d oe → (∃ vs, oe.data = .fields vs) → PSs (X.suite a ((a, oe) :: pn)) (b₀ :: suite) (ts a cls d))
    (hts : ∀ (a : Addr) (d : Option Addr) (D : Ends) (σ : L2.St) (H : Hp) ba O Hf s (xx : Exn), Rep X.K ba O Hf H σ s → σ[i]? = some (some (.ref a)) → xx.cls = x → ExOk X.K X.mg Hf H xx (.ref C) d →
      Fits (hx xx s) (fun fl s' => ∀ σ' H' Hf', Rep X.K ba O Hf' H' σ' s' → Same Hf Hf' → EndOk X.K ba O Hf' H' σ' s' D fl) (fun _ _ => False) → ts a (.ref C) d D σ H) :
    ES X E (.Try body [.ExceptHandler (some (.Name x np)) (some n) (b₀ :: suite) pos'] [] [] pos) (mTry i x mb hx) :=
  PS.conv (ps_try_as (tb := fun W => tMS X.K X.mg W mb) (ts := ts) hs hf hN hi hln ⟨hg, hd, .inl hm⟩ tk (fun W pn xe t _ => hb W pn xe t) hsu) fun D σ H q => by
    obtain ⟨ba, O, Hf, s, R0, F⟩ := q
    refine ⟨ba, O, Hf, s, R0, ?_⟩
    unfold mTry at F
    cases em : mb s with
    | none => rw [em] at F; exact F.elim
    | some q =>
      obtain ⟨s', r⟩ := q
      rw [em] at F
      cases r with
      | ok fl => exact F
      | error xx =>
        intro σ' H' Hf' c d R' e' ex
        simp only at F
        split at F
        · rename_i hcls
          have hc : c = .ref C := by
            have z := ex.1
            rw [hcls.1, hm] at z
            exact (Option.some.inj z).symm
          subst hc
          refine ⟨true, he, fun _ a ha => ?_, fun z => by cases z⟩
          have hlen : i < σ'.length := by
            rw [← R'.len]
            exact hcls.2
          refine hts a d _ _ H' ba O Hf' (dropAt i s') xx R'.drop (by rw [List.getElem?_set_self hlen]) hcls.1 ex ?_
          cases eh : hx xx (dropAt i s') with
          | none => rw [eh] at F; exact F.elim
          | some q =>
            obtain ⟨s2, r2⟩ := q
            rw [eh] at F
            cases r2 with
            | error _ => exact F.elim
            | ok fl =>
              intro σ2 H2 Hf2 R2 e2
              cases fl with
              | nx => exact F _ H2 Hf2 R2.drop (Same.trans e' e2)
              | bk => exact F _ H2 Hf2 R2.drop (Same.trans e' e2)
              | ct => exact F _ H2 Hf2 R2.drop (Same.trans e' e2)
              | rt r => cases r with
                | dat d => exact F (σ2.set i none) H2 Hf2 R2.drop (Same.trans e' e2)
                | _ => exact F.elim
        · exact F.elim
end
end Pu
/-! Pu16: the bag's places; pairs of names; the law's first statement. -/
namespace Pu
open PySem PySem.Spec PyProof.Rows L2
def Bag.get (β : Bag) : Int → Option D
  | 0 => some (.int β.b0)
  | 1 => some (.int β.b1)
  | 2 => some (.int β.b2)
  | 3 => some (.list (β.cs.map .int))
  | _ => none
def Bag.put (β : Bag) (k z : Int) : Option Bag := match k with
  | 0 => some { β with b0 := z }
  | 1 => some { β with b1 := z }
  | 2 => some { β with b2 := z }
  | _ => none
def isBag (i : Nat) (s : S) : Bool := match s.ρ[i]? with
  | some .bag => true
  | _ => false
theorem isBag_at {K : PySem.W.Frag} {ba : Option Addr} {O Hf H : Hp} {σ : L2.St} {s : S} {i : Nat} (R : Rep K ba O Hf H σ s) (h : isBag i s = true) : ∃ a, ba = some a ∧ σ[i]? = some (some (.ref a)) := by
  unfold isBag at h
  split at h
  · rename_i e
    obtain ⟨x, e1, a, e2, e3⟩ := R.at e
    exact ⟨a, e2, by rw [e1, e3]⟩
  · cases h
def mBagIx (i : Nat) (k : Int) : M Rv := fun s => if isBag i s then (s.β.get k).map fun d => (s, .ok (.dat d)) else none
def mBagSet (i : Nat) (k : Int) (m : M Rv) : M Fl := M.bind m fun r s => match r with
  | .dat (.int z) => if isBag i s then (s.β.put k z).map fun β => ({ s with β := β }, .ok .nx) else none
  | _ => none
def mBagAug (i : Nat) (k : Int) (m : M Rv) : M Fl := fun s => if isBag i s then (match s.β.get k with
  | some (.int z) => (M.bind m fun r s' => match r with
    | .dat (.int y) => if isBag i s' then (s'.β.put k (z + y)).map fun β => ({ s' with β := β }, .ok .nx) else none
    | _ => none) s
  | _ => none) else none
theorem Rep.bagPut {K : PySem.W.Frag} {p : Addr} {O Hf H : Hp} {σ : L2.St} {s : S} {k z : Int} {β' : Bag} (R : Rep K (some p) O Hf H σ s) (h : s.β.put k z = some β') :
    ∃ xs j, H p = some (.lst xs) ∧ ixN xs.length k = some j ∧ Rep K (some p) O Hf (upd H p (.lst (xs.set j (.int z)))) σ { s with β := β' } := by
  obtain ⟨⟨c, h1, h2⟩, h3, h4⟩ := R.reg.bag p rfl
  have key : ∀ xs', BagAt K Hf (upd H p (.lst xs')) p β' → Rep K (some p) O Hf (upd H p (.lst xs')) σ { s with β := β' } := fun xs' hb => by
    refine ⟨⟨fun b o e => ?_, fun b o e => ?_, R.reg.dis, fun a e => ?_⟩, R.len, fun i sl x e1 e2 => ?_, R.uni⟩
    · rw [upd_ne (ne_of_none e h3)]; exact R.reg.sub b o e
    · rw [upd_ne (ne_of_none e h4)]; exact R.reg.out b o e
    · cases e; exact ⟨hb, h3, h4⟩
    · have q := R.slot i sl x e1 e2
      cases sl with
      | no => trivial
      | dat d => exact q
      | bag => exact q
      | own ds =>
        obtain ⟨a, q1, vs, z1, z2, z3, z4, z5⟩ := q
        exact ⟨a, q1, vs, by rw [upd_ne (fun w => z4 (by rw [w]))]; exact z1, z2, z3, z4, z5⟩
  unfold Bag.put at h
  split at h
  · cases h
    exact ⟨_, 0, h1, rfl, key _ ⟨c, upd_same, h2⟩⟩
  · cases h
    exact ⟨_, 1, h1, rfl, key _ ⟨c, upd_same, h2⟩⟩
  · cases h
    exact ⟨_, 2, h1, rfl, key _ ⟨c, upd_same, h2⟩⟩
  · cases h
theorem bag_get {K : PySem.W.Frag} {p : Addr} {O Hf H : Hp} {σ : L2.St} {s : S} {k : Int} {d : D} (R : Rep K (some p) O Hf H σ s) (h : s.β.get k = some d) : ∃ xs v, H p = some (.lst xs) ∧ atI xs k = some v ∧ Rp K Hf d v ∧ 0 ≤ k ∧ xs[k.toNat]? = some v := by
  obtain ⟨⟨c, h1, h2⟩, h3, h4⟩ := R.reg.bag p rfl
  unfold Bag.get at h
  split at h
  · cases h; exact ⟨_, _, h1, rfl, by simp only [Rp], by decide, rfl⟩
  · cases h; exact ⟨_, _, h1, rfl, by simp only [Rp], by decide, rfl⟩
  · cases h; exact ⟨_, _, h1, rfl, by simp only [Rp], by decide, rfl⟩
  · cases h; exact ⟨_, _, h1, rfl, h2, by decide, rfl⟩
  · cases h
section
variable {X : Cx} {E : WX}
/-- xs[k], k at or above 0, by values -/
def rGetN (K : PySem.W.Frag) : V → V → Hp → VK → Prop := fun o i H Q => ∃ p xs k v, o = .ref p ∧ i = .int k ∧ 0 ≤ k ∧ SqL K H p xs ∧ xs[k.toNat]? = some v ∧ Q v H
theorem get_listN : PGet X (rGetN X.K) := by
  intro pins s σ H o i ov iv Q I ro ri h
  obtain ⟨p, xs, k, v, rfl, rfl, h0, hq, hv, q⟩ := h
  cases ro
  obtain ⟨t, rfl⟩ := ri
  obtain ⟨its, r, pl, hz⟩ := I.list hq; obtain ⟨w, ew, rw'⟩ := r.get hv
  have hn := line63
  have hl := (List.getElem?_eq_some_iff.mp hv).1
  exact wpAny_getItem_list pl.isList h0 (by omega) (by simpa using ew) ⟨v, H, I, rw', q⟩
theorem ev_bagIx {i : Nat} {x : Str} {k : Int} {j : Nat} {p1 p2 pos : Pos} (hb : PE X (.Name x p1) (tVar i)) (hs : PlainIx (.Constant (.int k) j p2)) : EV X E (.Subscript (.Name x p1) (.Constant (.int k) j p2) pos) (mBagIx i k) :=
  PE.conv (pe_ix ix_seq hb pe_int hs) fun σ H Q q => by
    obtain ⟨ba, O, Hf, s, R, F⟩ := q
    unfold mBagIx at F
    split at F
    · rename_i hb
      obtain ⟨a, e1, e2⟩ := isBag_at R hb
      subst e1
      cases e : s.β.get k with
      | none => rw [e] at F; exact F.elim
      | some d =>
        rw [e] at F
        obtain ⟨xs, v, z1, z2, z3, _⟩ := bag_get R e
        exact ⟨_, e2, .inl ⟨a, xs, k, v, rfl, rfl, SqL.of z1, z2, F v H Hf R (Same.refl _) z3⟩⟩
    · exact F.elim
theorem es_bagSet {i : Nat} {x : Str} {k : Int} {j : Nat} {p1 p2 p3 pos : Pos} {e : Expr} {m : M Rv} (hb : PE X (.Name x p1) (tVar i)) (he : EV X E e m)
    (ha : ∀ v, assign (.Subscript (.Name x p1) (.Constant (.int k) j p2) p3) X.env v = (do
      let ov ← holding [v] (eval (.Name x p1) X.env)
      let iv ← holding [v, ov] (eval (.Constant (.int k) j p2) X.env)
      standAt p3
      holding [v, ov, iv] (setItem (ov) iv v)
      release [v, ov, iv] []) := by intro _; rfl)
    (hs : swapsWithSole [.Subscript (.Name x p1) (.Constant (.int k) j p2) p3] e pos.line X.env = pure false := by rfl) (hw : swappedStores [.Subscript (.Name x p1) (.Constant (.int k) j p2) p3] e X.env = pure none := by rfl)
    (h1 : (assignEach [.Subscript (.Name x p1) (.Constant (.int k) j p2) p3] X.env).map (·.2) = [assign (.Subscript (.Name x p1) (.Constant (.int k) j p2) p3) X.env] := by rfl) :
    ES X E (.Assign [.Subscript (.Name x p1) (.Constant (.int k) j p2) p3] e pos) (mBagSet i k m) :=
  PS.conv (ps_asg he (pg_sub hb pe_int set_list ha) hs hw h1) fun D σ H q => by
    obtain ⟨ba, O, Hf, s, R, F⟩ := q
    refine ⟨ba, O, Hf, s, R, tMS.bind F fun r s1 F1 v H1 Hf1 R1 e1 ok1 => ?_⟩
    cases r with
    | dat d => cases d with
      | int z =>
        simp only at F1
        split at F1
        · rename_i hb
          obtain ⟨a, e2, e3⟩ := isBag_at R1 hb
          subst e2
          cases e : s1.β.put k z with
          | none => rw [e] at F1; exact F1.elim
          | some β' =>
            rw [e] at F1
            obtain ⟨xs, jj, z1, z2, R2⟩ := R1.bagPut e
            rw [rp_int (K := X.K) (Hf := Hf1) ok1]
            exact ⟨_, e3, a, xs, k, jj, rfl, rfl, z1, z2, F1 σ _ Hf1 R2 e1⟩
        · exact F1.elim
      | _ => exact F1.elim
    | _ => exact F1.elim
theorem es_bagAug {i : Nat} {x : Str} {k : Int} {j : Nat} {p1 p2 p3 pos : Pos} {e : Expr} {m : M Rv} (hb : PE X (.Name x p1) (tVar i)) (he : EV X E e m) :
    ES X E (.AugAssign (.Subscript (.Name x p1) (.Constant (.int k) j p2) p3) .Add e pos) (mBagAug i k m) :=
  PS.conv (ps_augS hb pe_int (tget := rGetN X.K) get_listN he ip_add set_list) fun D σ H q => by
    obtain ⟨ba, O, Hf, s, R, F⟩ := q
    unfold mBagAug at F
    split at F
    · rename_i hb
      obtain ⟨a, e1, e2⟩ := isBag_at R hb
      subst e1
      split at F
      · rename_i z e3
        obtain ⟨xs, v, z1, z2, z3, hk⟩ := bag_get R e3
        refine ⟨_, e2, ⟨a, xs, k, v, rfl, rfl, hk.1, SqL.of z1, hk.2, some a, O, Hf, s, R, tMS.bind F fun r s1 F1 w H1 Hf1 R1 e1 ok1 => ?_⟩⟩
        cases r with
        | dat d => cases d with
          | int y =>
            simp only at F1
            split at F1
            · rename_i hb1
              cases e : s1.β.put k (z + y) with
              | none => rw [e] at F1; exact F1.elim
              | some β' =>
                rw [e] at F1
                obtain ⟨ys, jj, y1, y2, R2⟩ := R1.bagPut e
                rw [rp_int (K := X.K) (Hf := Hf1) ok1]
                rw [rp_int (K := X.K) (Hf := Hf) z3]
                exact ⟨_, _, rfl, rfl, a, ys, k, jj, rfl, rfl, y1, y2, F1 σ _ Hf1 R2 e1⟩
            · exact F1.elim
          | _ => exact F1.elim
        | _ => exact F1.elim
      · exact F.elim
    · exact F.elim
/-! ### // by any divisor of fewer than 9000 bits -/
def dFdivW (a b : D) : Option Rs := match a, b with
  | .int i, .int j => if 0 < j ∧ j.natAbs.log2 < 9000 then some (.dat (.int (i / j))) else none
  | _, _ => none
theorem op2_fdivW {K : PySem.W.Frag} : Op2 K (rI CDivW fun i j => .int (i / j)) dFdivW := by
  intro Hf H d1 d2 x y res Q e b1 b2 er q
  unfold dFdivW at er
  split at er
  · split at er
    · cases er
      obtain rfl := brp_int b1
      obtain rfl := brp_int b2
      exact ⟨_, _, rfl, rfl, by assumption, q _ _ (.old (by simp only [Rp]))⟩
    · cases er
  · cases er
/-! ### names = a value that is unpacked -/
def mAsg (t : Tg) (m : M Rv) : M Fl := M.bind m fun r => M.bind (retain r) fun d => M.bind (t.put d) fun _ => M.pure .nx
theorem es_asg {tg e : Expr} {t : Tg} {m : M Rv} {pos : Pos} (he : EV X E e m) (hg : EG X tg t) (hs : swapsWithSole [tg] e pos.line X.env = pure false := by rfl) (hw : swappedStores [tg] e X.env = pure none := by rfl)
    (h1 : (assignEach [tg] X.env).map (·.2) = [assign tg X.env] := by rfl) : ES X E (.Assign [tg] e pos) (mAsg t m) :=
  PS.conv (ps_asg he hg hs hw h1) fun D σ H q => by
    obtain ⟨ba, O, Hf, s, R, F⟩ := q
    refine ⟨ba, O, Hf, s, R, tMS.bind F fun r s1 F1 v H1 Hf1 R1 e1 ok1 => ?_⟩
    obtain ⟨d, s2, Hf2, F2, e2, R2, p⟩ := retain_ok R1 ok1 F1.bind
    refine ⟨ba, O, Hf2, s2, d, R2, p, (Fits.put F2.bind).imp (fun _ s3 F3 σ3 H3 Hf3 R3 e3 _ => ?_) fun x s' q => q⟩
    exact F3 σ3 H3 Hf3 R3 (Same.trans e1 (Same.trans e2 e3))
/-! ### a, b = x, y with plain names -/
def mPar (i j : Nat) (m1 m2 : M Rv) : M Fl := M.bind m1 fun r1 => M.bind m2 fun r2 s => match slOf r1, slOf r2 with
  | some l1, some l2 => some ({ s with ρ := (s.ρ.set i l1).set j l2 }, .ok .nx)
  | _, _ => none
theorem par_end {K : PySem.W.Frag} {mg : Str → Option Value} {ba : Option Addr} {O Hf H : Hp} {σ : L2.St} {s : S} {i j : Nat} {v w : V} {l1 : Sl} {r2 : Rv} {D : Ends} (R : Rep K ba O Hf H σ s) (ok2 : RvOk K ba O Hf H σ s r2 w)
    (h1 : SlOk K ba O Hf H l1 (some v)) (hu : ∀ ds, l1 = .own ds → (∀ (k : Nat) es, s.ρ[k]? = some (.own es) → σ[k]? ≠ some (some v)) ∧ ∀ es, r2 = .fresh es → w ≠ v) {E : WX} {Hf0 : Hp} (e0 : Same Hf0 Hf)
    (F : Fits (match some l1, slOf r2 with
      | some l1, some l2 => some (({ s with ρ := (s.ρ.set i l1).set j l2 } : S), (Except.ok Fl.nx : Except Exn Fl))
      | _, _ => none) (fun fl s' => ∀ σ' H' Hf', Rep K ba O Hf' H' σ' s' → Same Hf0 Hf' → EndOk K ba O Hf' H' σ' s' D fl) (ExS K mg E ba O Hf0)) : D.nx ((σ.set i (some v)).set j (some w)) H := by
  have R1 := R.store (i := i) h1 fun ds z k es nk e => (hu ds z).1 k es e
  cases r2 with
  | dat d => exact F _ H Hf (R1.store (i := j) (sl := .dat d) ⟨w, rfl, ok2⟩ fun ds z => nomatch z) e0
  | fresh es =>
    obtain ⟨a, rfl, o, u⟩ := ok2
    refine F _ H Hf (R1.store (i := j) (sl := .own es) ⟨a, rfl, o⟩ fun ds z k fs nk e => ?_) e0
    by_cases q : i = k
    · subst q
      have hi : i < s.ρ.length := by
        have := (List.getElem?_eq_some_iff.mp e).1
        simpa using this
      rw [List.getElem?_set_self hi] at e
      rw [List.getElem?_set_self (by rw [← R.len]; exact hi)]
      intro z
      have z' := Option.some.inj (Option.some.inj z)
      exact (hu fs (Option.some.inj e)).2 es rfl z'.symm
    · rw [List.getElem?_set_ne q] at e ⊢
      exact u k fs e
  | slot k => exact F.elim
  | bag => exact F.elim
theorem es_par {i j : Nat} {x y : Str} {a b : Expr} {m1 m2 : M Rv} {px py pt pos : Pos} {kt k2 pt2} (hc : X.calm = true) (hN : X.N.Nodup) (hi : X.N[i]? = some x) (hj : X.N[j]? = some y) (hij : i ≠ j)
    (hx : X.env.scope.names.lookup x = some .local) (hy : X.env.scope.names.lookup y = some .local) (ha : EV X E a m1) (hb : EV X E b m2) (hw : swappedStores [.Tuple [.Name x px, .Name y py] kt pt] (.Tuple [a, b] k2 pt2) X.env = pure (some [x, y]))
    (hs : swapsWithSole [.Tuple [.Name x px, .Name y py] kt pt] (.Tuple [a, b] k2 pt2) pos.line X.env = pure false := by rfl)
    (na : starEach [a, b] X.env = (false, eval a X.env) :: starEach [b] X.env := by rfl) (nb : starEach [b] X.env = (false, eval b X.env) :: starEach [] X.env := by rfl) :
    ES X E (.Assign [.Tuple [.Name x px, .Name y py] kt pt] (.Tuple [a, b] k2 pt2) pos) (mPar i j m1 m2) :=
  PS.conv (ps_par hc hN hi hj hij hx hy (pa_cons ha (pa_cons hb pa_nil nb) na) hw hs) fun D σ H q => by
    obtain ⟨ba, O, Hf, s, R, F⟩ := q
    refine ⟨ba, O, Hf, s, R, tMS.bind F fun r s1 F1 v H1 Hf1 R1 e1 ok1 => ?_⟩
    cases r with
    | dat d =>
      refine ⟨ba, O, Hf1, s1, R1, tMS.bind (end_mono e1 F1) fun r2 s2 F2 w H2 Hf2 R2 e2 ok2 => ⟨v, w, rfl, ?_⟩⟩
      exact par_end (l1 := .dat d) (E := E) (mg := X.mg) R2 ok2 ⟨v, rfl, Rp.mono e2 _ _ ok1⟩ (fun ds z => nomatch z) e2 F2
    | fresh ds =>
      obtain ⟨q, rfl, ⟨vs, k1, k2, k3, k4, k5⟩, hu⟩ := ok1
      have R1' := R1.outer k1 k2 k4 hu
      have so : Same O (upd O q (.lst vs)) := Same.updN k3
      have F1' := end_mono e1 F1
      refine ⟨ba, upd O q (.lst vs), Hf1, s1, R1', ?_⟩
      refine F1'.bind.imp (fun r2 s2 F2 w H2 Hf2 R2 e2 ok2 => ⟨_, w, rfl, ?_⟩) fun xx s' qq => ?_
      · have hq : H2 q = some (.lst vs) := R2.reg.out q _ upd_same
        have n2 : Hf2 q = none := by
          cases z : Hf2 q with
          | none => rfl
          | some o =>
            have z' := R2.reg.dis q (by rw [z]; simp)
            rw [upd_same] at z'; cases z'
        have apart : ∀ {c : Addr} {es : List Pu.D}, OwnAt X.K ba (upd O q (.lst vs)) Hf2 H2 es c → c ≠ q := fun {c es} o z => by
          obtain ⟨_, _, _, o3, _⟩ := o
          rw [z, upd_same] at o3; cases o3
        have R2' := R2.less so
        have ok2' : RvOk X.K ba O Hf2 H2 σ s2 r2 w := by
          cases r2 with
          | fresh es =>
            obtain ⟨c, z0, ⟨us, z1, z2, z3, z4, z5⟩, z6⟩ := ok2
            refine ⟨c, z0, ⟨us, z1, z2, ?_, z4, z5⟩, z6⟩
            cases z : O c with
            | none => rfl
            | some o => rw [so _ _ z] at z3; cases z3
          | _ => exact ok2
        refine par_end (l1 := .own ds) (E := E) (mg := X.mg) R2' ok2' ⟨q, rfl, vs, hq, n2, k3, k4, RpL.mono e2 _ _ k5⟩ (fun ds' _ => ⟨fun k es e z => ?_, fun es z => ?_⟩) e2 F2
        · obtain ⟨c, z1, z2⟩ := R2.slot k _ _ e z
          cases z1
          exact apart z2 rfl
        · subst z
          obtain ⟨c, z0, z1, _⟩ := ok2
          intro z2
          rw [z0] at z2
          cases z2
          exact apart z1 rfl
      · intro H' Hf' c d R' e' ex
        exact qq _ H' Hf' c d (R'.less so) e' ex
    | slot k =>
      refine ⟨ba, O, Hf1, s1, R1, tMS.bind (end_mono e1 F1) fun r2 s2 F2 w H2 Hf2 R2 e2 ok2 => ?_⟩
      exact F2.elim
    | bag =>
      refine ⟨ba, O, Hf1, s1, R1, tMS.bind (end_mono e1 F1) fun r2 s2 F2 w H2 Hf2 R2 e2 ok2 => ?_⟩
      exact F2.elim
end
end Pu
/-! Pu17: the law's def; the end of a law row. -/
namespace Pu
open PySem PySem.Spec PyProof.Rows L2
/-- the law's own promise -/
def spLaw (n : Nat) (K : PySem.W.Frag) : Sp := fun vs H Q _ => ∃ (a : Addr) (ns : List Int), vs = [.ref a] ∧ SqL K H a (ns.map V.int) ∧ ns.length ≤ n ∧ ∀ H', Q (.bl true) H'
def noH : Hp := fun _ => none
theorem regLaw {K : PySem.W.Frag} {H : Hp} {β : Bag} : Reg K none noH H H β := ⟨Same.refl _, (fun _ _ e => by cases e), fun _ _ => rfl, fun _ e => by cases e⟩
theorem Rep.bagNew {K : PySem.W.Frag} {O Hf H : Hp} {σ : L2.St} {s : S} {i : Nat} {v : V} {b0 b1 b2 : Int} {cs : List Int} (R : Rep K none O Hf H σ s) (h : RvOk K none O Hf H σ s (.fresh [.int b0, .int b1, .int b2, .list (cs.map .int)]) v) :
    ∃ a, Rep K (some a) O Hf H (σ.set i (some v)) ⟨s.ρ.set i .bag, ⟨b0, b1, b2, cs⟩⟩ := by
  obtain ⟨a, rfl, ⟨vs, h1, h2, h3, h4, h5⟩, hu⟩ := h
  obtain ⟨x0, _, rfl, q0, r0⟩ := h5.cons_inv
  obtain ⟨x1, _, rfl, q1, r1⟩ := r0.cons_inv
  obtain ⟨x2, _, rfl, q2, r2⟩ := r1.cons_inv
  obtain ⟨x3, _, rfl, q3, r3⟩ := r2.cons_inv
  rw [r3.nil_inv, rp_int q0, rp_int q1, rp_int q2] at h1
  have q3' := q3
  simp only [Rp] at q3'
  obtain ⟨c, ws, rfl, _, _⟩ := q3'
  have R1 : Rep K (some a) O Hf H σ ⟨s.ρ, ⟨b0, b1, b2, cs⟩⟩ := by
    refine ⟨⟨R.reg.sub, R.reg.out, R.reg.dis, fun b e => ?_⟩, R.len, fun j sl x e1 e2 => ?_, R.uni⟩
    · cases e; exact ⟨⟨c, h1, q3⟩, h2, h3⟩
    · have q := R.slot j sl x e1 e2
      cases sl with
      | no => trivial
      | dat d => exact q
      | own es =>
        obtain ⟨b, z1, us, z2, z3, z4, _, z6⟩ := q
        refine ⟨b, z1, us, z2, z3, z4, fun z => ?_, z6⟩
        cases z
        subst z1
        exact hu j es e1 e2
      | bag => obtain ⟨b, z, _⟩ := q; cases z
  exact ⟨a, R1.store (sl := .bag) ⟨a, rfl, rfl⟩ fun ds z => nomatch z⟩
theorem fnLaw {P : Program} {w : World} {K : PySem.W.Frag} {mg : Str → Option Value} {base : Heap} {k n i : Nat} {f : Addr} {x : Str} {st : Stmt} {fd : FuncData} {N : List Str} {p : Str} {s1 : Stmt} {rest : List Stmt} {mc : M Rv} {mr : M Fl}
    (U : Fun K x x st f fd) (Sc : FnScope N [p] (defScope st)) (hst : defBody st = s1 :: rest)
    (body : ∀ (cdv : Value) (A : Around) (outer : List Env) (s : Shared) (H : Hp) (E : XK), A.guards = some [] → Room k (A.deeper (envOfC x (defScope st) s.heap.objs.size f cdv)) →
      ∃ W : WX, PS (cxOf (L2.CX P w) P w K mg base N x (defScope st) f cdv A outer s H E) s1 (tAsg (tM K mg W mc) (gName i)) ∧
        ESs (cxOf (L2.CX P w) P w K mg base N x (defScope st) f cdv A outer s H E) (fun c d _ H => E c d H) rest mr)
    (hf : ∀ ns : List Int, ns.length ≤ n → ∃ s b0 b1 b2 cs s2, mc ⟨begin N.length [.dat (.list (ns.map .int))], ⟨0, 0, 0, []⟩⟩ = some (s, .ok (.fresh [.int b0, .int b1, .int b2, .list (cs.map .int)])) ∧
      mr ⟨s.ρ.set i .bag, ⟨b0, b1, b2, cs⟩⟩ = some (s2, .ok (.rt (.dat (.bool true))))) : FnG P w K mg base (L2.CX P w) (k + 1) f fd [p] (spLaw n K) :=
  fnG_of U Sc (fun vs H Q E h => by
    obtain ⟨a, ns, rfl, _⟩ := h
    rfl) fun cdv A outer s H vs Q E hg hr h => by
    obtain ⟨W, h1, h2⟩ := body cdv A outer s H E hg hr
    refine ⟨_, by rw [hst]; exact pss_cons h1 h2, ?_⟩
    obtain ⟨a, ns, rfl, hS, hn, hQ⟩ := h
    obtain ⟨sA, b0, b1, b2, cs, s2, e1, e2⟩ := hf ns hn
    have ha : ArL K none H [.dat (.list (ns.map .int))] [.ref a] := ⟨.ref a, [], rfl, by show Rp K H (.list (ns.map .int)) (.ref a); simp only [Rp]; exact ⟨a, _, rfl, hS, RpL.ints ns⟩, rfl⟩
    refine ⟨none, noH, H, ⟨begin N.length [.dat (.list (ns.map .int))], ⟨0, 0, 0, []⟩⟩, rep_begin regLaw ha, ?_⟩
    rw [e1]
    intro v H1 Hf1 R1 _ ok1
    obtain ⟨b, R2⟩ := R1.bagNew (i := i) ok1
    refine ⟨some b, noH, Hf1, _, R2, ?_⟩
    rw [e2]
    intro σ' H' Hf' _ _ u hu
    rw [rp_bl (K := K) (Hf := Hf') hu]
    exact hQ H'
/-! ### the row's end -/
theorem lawG {P : Program} {w : World} {K : PySem.W.Frag} {mg mb : Str → Option Value} {k n : Nat} {fa a : Addr} {fd : FuncData} {x : Str} {s : Shared} {vs : List Value} {ns : List Int}
    (KX : K.In s.heap) (hmg : s.heap.Ns mainGlobals mg) (hmb : s.heap.Ns builtinsNs mb) (hbb : ∀ x : Str, x ≠ "__name__" → mb x = bootBuiltins x) (hlim : s.heap.NoLimit) (hgen : s.gens = #[])
    (ha : s.heap.get? a = some { cls := .type "list", data := .seq vs.toArray }) (hi : IntsAre vs ns) (hl : ns.length ≤ n) (hn : n ≤ sizeLine) (hr : Room k callerA)
    (G : ∀ base : Heap, K.In base → base.Ns mainGlobals mg → FnG P w K mg base (L2.CX P w) k fa fd [x] (spLaw n K)) (hbind : ∀ (s : Shared) (u : Value), BindsTo s fd ⟨[u], []⟩ [(x, u)]) :
    codeAny (model P w) callerA (.call (.ref fa) ⟨[.ref a], []⟩) (fun r s' => r = .ok (.ret (.bool true)) ∧ PySem.OldK s.heap s'.heap ∧ s'.os = s.os ∧ AllBare s'.gens) s := by
  have rv := vals_ints hi
  have lenV := hi.length
  have hlz : ns.length ≤ sizeLine := Nat.le_trans hl hn
  let ob : Obj := { cls := .type "list", data := .seq vs.toArray }
  obtain ⟨H, hO, hS, hok, hA, hK⟩ : ∃ H : Hp, (∀ b, H b = none ∨ (b = a ∧ H b = some (.frz ob (.lst (ns.map V.int))))) ∧ SqL K H a (ns.map V.int) ∧ HOk P w H s.heap ∧ (∀ b, H b ≠ none → b = a) ∧ (H a ≠ none → K.lookup a = none) := by
    cases hk : K.lookup a with
    | some o =>
      have e := KX a o hk
      rw [ha] at e
      cases e
      exact ⟨noH, fun _ => .inl rfl, .inr ⟨_, vs.toArray, _, hk, rfl, rfl, rfl, by rw [List.size_toArray, lenV]; exact hlz, by simpa using rv⟩, (fun b u z => by cases z), fun b z => absurd rfl z, fun z => absurd rfl z⟩
    | none =>
      refine ⟨fun b => if b = a then some (.frz ob (.lst (ns.map V.int))) else none, fun b => ?_, .inl (.inr ⟨ob, if_pos rfl⟩), fun b u z => ?_, fun b z => ?_, fun _ => rfl⟩
      · by_cases hb : b = a
        · exact .inr ⟨hb, if_pos hb⟩
        · exact .inl (if_neg hb)
      · by_cases hb : b = a
        · have z' := Eq.trans (if_pos hb).symm z
          cases z'
          rw [hb]
          exact ⟨ha, by rw [List.length_map]; exact hlz, vs, _, rv, ha⟩
        · exact absurd ((if_neg hb).symm.trans z) (by simp)
      · exact Decidable.byContradiction fun hb => z (if_neg hb)
  have keep : ∀ {b : Addr} {o : Obj}, s.heap.get? b = some o → H b = none → (hidT s.heap H).get? b = some o := fun e n => hidT_get e n
  have notDict : ∀ {b : Addr} {o : Obj} {es : Array DictEntry} {ep : Nat}, s.heap.get? b = some o → o.data = .dict es ep → H b = none := fun {b o es ep} e d => by
    rcases hO b with z | ⟨z, _⟩
    · exact z
    · rw [z, ha] at e
      cases e
      cases d
  have nsUp : ∀ {b : Addr} {m : Str → Option Value}, s.heap.Ns b m → (hidT s.heap H).Ns b m := fun {b m} q => by
    obtain ⟨o, es, ep, e, d, r⟩ := q
    exact ⟨o, es, ep, keep e (notDict e d), d, r⟩
  have KB : K.In (hidT s.heap H) := fun b o e => keep (KX b o e) (by
    rcases hO b with z | ⟨z, z2⟩
    · exact z
    · rw [z] at e z2
      rw [hK (by rw [z2]; simp)] at e
      cases e)
  obtain ⟨mc, l1, l2⟩ := hlim
  have M : Mod K mg (hidT s.heap H) := ⟨KB, nsUp hmg, ⟨mb, nsUp hmb, hbb⟩, mc, nsUp l1, l2⟩
  have E0' : Env0 P w K mg (hidT s.heap H) callerA [] s H := ⟨rfl, M, fun b o e => of_hidT e, Nat.le_of_eq (hidT_size _ _), trivial, nofun, hok, .of_eq hgen⟩
  refine codeAny_mono ((G _ KB (nsUp hmg)).go callerA [] s H ⟨[.ref a], []⟩ [.ref a] [.ref a] (fun v _ => v = .bl true) (fun _ _ _ => False) rfl hr E0' (hbind s (.ref a)) (.cons rfl .nil) ⟨a, ns, rfl, hS, hl, fun _ => rfl⟩) fun r s' h => ?_
  match r, h with
  | .error e, h =>
    obtain ⟨_, _, _, _, _, _, _, _, _, _, _, _, z⟩ := h; exact z.elim
  | .ok (.ret u), h =>
    obtain ⟨v, H', os, bare, un, hok', r', q⟩ := h; have q' : v = .bl true := q
    subst q'
    obtain rfl : u = Value.bool true := r'; refine ⟨rfl, PySem.OldK.of_keep fun b o e => ?_, os, bare⟩
    rcases hO b with z | ⟨rfl, z⟩
    · exact un.keep b o e z (by intro z; exact absurd (show b ∈ ([] : List Addr) from z) (by simp)) (by simp)
    · obtain ⟨e1, _⟩ := hok b _ z
      obtain ⟨e2, _⟩ := hok' b _ (un.frzs b ob _ z)
      rw [e] at e1; cases e1
      exact e2
theorem walkG {l : PySem.W.OpenLaw} {n k : Nat} {q : Program} {loose : List Str} {XP : (Str → Option Value) → Heap → Prop} {YP : World → Heap → Prop} {d : DefRec} {x : Str} (hn : l.most = some n) (hn2 : n ≤ sizeLine) (hdf : d.params.defaults = []) (hr : Room k callerA) (F : ∀ (w : World) (mg : Str → Option Value) (fa : Addr) (h : Heap), YP w h → h.Ns mainGlobals mg → mg d.name = some (.ref fa) →
      ∃ (K : PySem.W.Frag) (fd : FuncData), K.In h ∧ (∀ (s : Shared) (u : Value), BindsTo s fd ⟨[u], []⟩ [(x, u)]) ∧ ∀ base : Heap, K.In base → base.Ns mainGlobals mg → FnG l.prog w K mg base (L2.CX l.prog w) k fa fd [x] (spLaw n K)) : PySem.W.WalkO q loose XP YP l.row.toRowW d [] (fun f vs => PySem.call f vs) := by
  refine Att.attach_call hn hdf fun w s₀ _ mg _ fa _ _ _ _ a vs ns G Y _ _ _ hmg hobj hints hlen hg => ?_
  obtain ⟨K, fd, KX, hb, hF⟩ := F w mg fa _ Y G.T.g hmg
  exact lawG KX G.T.g G.T.b G.T.builtins G.T.nolimit hg hobj hints hlen hn2 hr hF hb
end Pu
/-! Pu18: the head's facts, with those of exception classes that keep their arguments. -/
namespace Pu
open PySem PySem.Spec PyProof.Rows L2
/-- an exception class of the text and its __init__ -/
structure InD where
  cls : Str
  name : Str
  qual : Str
  params : Arguments
  body : List Stmt
  scope : Scope
abbrev InV : Type := Option (Str × Str × Arguments × FuncBody × Scope × Addr × List Str × Addr)
def InD.at_ (K : PySem.W.Frag) (d : InD) : Addr := He.ma K (He.ga K d.cls) "__init__"
def InD.obs (K : PySem.W.Frag) (d : InD) : InV := match K.lookup (d.at_ K) with
  | some ⟨_, _, .func fd, _⟩ => some (fd.name, fd.qualname, fd.params, fd.body, fd.scope, fd.globals, fd.closure.map (·.1), fd.builtins)
  | _ => none
def InD.val (d : InD) : InV := some (d.name, d.qual, d.params, .stmts d.body, d.scope, mainGlobals, ["__class__"], builtinsNs)
def oexB (K : PySem.W.Frag) (C : Addr) : Bool := (match K.lookup C with
  | some ⟨.type t, _, .cls cd, sl⟩ => decide (t = "type") && (match cd.mro, sl.toList with
    | .ref C' :: bm, [_, _, _, _, some (.builtin n), _] => decide (C' = C) && decide (n = "ValueError.__new__") && !cd.hasDel && cd.hasDict && PySem.HandSPX.refsVE bm
    | _, _ => false)
  | _ => false) && decide (PySem.W.findIn K (.ref C) "__setattr__" = some (some (.builtin "object.__setattr__"))) && decide (PySem.W.subIn K (.ref C) (.type "BaseException") = some true) && decide (PySem.W.typeIn K (.ref C) = some (.type "type")) && PySem.W.keepIn K (.ref C)
theorem oexB_ok {K : PySem.W.Frag} {C : Addr} (h : oexB K C = true) : OexC K C := by
  unfold oexB at h
  simp only [Bool.and_eq_true, decide_eq_true_eq] at h; obtain ⟨⟨⟨⟨h1, h2⟩, h3⟩, h4⟩, h5⟩ := h
  refine ⟨?_, h2, h3, h4, h5⟩
  cases e : K.lookup C with
  | none => rw [e] at h1; cases h1
  | some o =>
    rw [e] at h1
    obtain ⟨oc, od, dt, sl⟩ := o
    cases oc with
    | type t =>
      cases dt with
      | cls cd =>
        simp only [Bool.and_eq_true, decide_eq_true_eq] at h1; obtain ⟨rfl, h1⟩ := h1
        split at h1
        · rename_i C' bm k0 k1 k2 k3 nn k5 hm hs
          simp only [Bool.and_eq_true, decide_eq_true_eq, Bool.not_eq_true'] at h1
          obtain ⟨⟨⟨⟨rfl, rfl⟩, hd⟩, hh⟩, hb⟩ := h1
          obtain ⟨nm, bs, mro, ns, qn, hdd, sn, sub, ab, col, del⟩ := cd
          dsimp only at hm hd hh
          subst hm hd hh
          obtain ⟨l⟩ := sl
          simp only at hs
          subst hs
          exact ⟨nm, qn, ns, bs, bm, sn, sub, ab, col, od, k0, k1, k2, k3, k5, rfl, hb⟩
        · cases h1
      | _ => cases h1
    | _ => cases dt <;> cases h1
def InD.ok (file : Str) (K : PySem.W.Frag) (d : InD) : Bool :=
  oexB K (He.ga K d.cls) && decide (PySem.W.findIn K (.ref (He.ga K d.cls)) "__init__" = some (some (.ref (d.at_ K)))) && decide (PySem.W.typeIn K (.ref (d.at_ K)) = some (.type "function")) &&
  (match K.lookup (d.at_ K) with
    | some ⟨_, _, .func fd, _⟩ => (match (fd.defaults : Value) with
        | .none => true
        | _ => false) && PySem.W.codeIn K fd.code d.qual && (match fd.code with
        | .ref cda => (match K.lookup cda with
          | some ⟨_, _, .fields vs, _⟩ => (match (vs[2]? : Option Value) with
            | some (Value.str f _) => file == f
            | _ => false)
          | _ => false)
        | _ => false) && (match fd.closure with
        | [(_, cc)] => (match K.lookup cc with
          | some ⟨_, _, .cell (some (.ref D)), _⟩ => decide (D = He.ga K d.cls)
          | _ => false)
        | _ => false)
    | _ => false) &&
  decide (PySem.W.nsIn K cStatics "thirdparty.any" = some none) && decide (PySem.W.ks_superIn K (He.ga K d.cls) (He.ga K d.cls) "__init__" = some (some (.builtin "ValueError.__init__"))) && decide (PySem.W.subIn K (.ref (He.ga K d.cls)) (.type "ValueError") = some true) &&
  decide (PySem.W.mroIn K (He.ga K d.cls) (.ref (He.ga K d.cls)) = some true) && xfB K (He.ga K d.cls)
theorem InD.excI {P : Program} {K : PySem.W.Frag} {d : InD} (e : d.obs K = d.val) (c : d.ok P.main.file K = true) : ExcI P K (He.ga K d.cls) (d.at_ K) d.name d.qual d.params d.body d.scope ∧ XfC K (He.ga K d.cls) := by
  unfold InD.ok at c
  simp only [Bool.and_eq_true, decide_eq_true_eq] at c
  obtain ⟨⟨⟨⟨⟨⟨⟨⟨c1, c2⟩, c3⟩, c4⟩, c5⟩, c6⟩, c7⟩, c8⟩, c9⟩ := c
  refine ⟨⟨oexB_ok c1, c2, c3, ?_, c5, c6, c7, c8⟩, xfB_ok c9⟩
  unfold InD.obs at e; cases q : K.lookup (d.at_ K) with
  | none => rw [q] at c4; cases c4
  | some o =>
    rw [q] at c4 e
    obtain ⟨oc, od, dt, osl⟩ := o
    cases dt with
    | func fd =>
      obtain ⟨m1, m2, m3, m4, m5, m6, m7, m8, m9, m10, m11, m12, m13, m14, m15⟩ := fd
      simp only [Bool.and_eq_true] at c4
      obtain ⟨⟨⟨k0, k1⟩, k2⟩, k3⟩ := c4
      have k0' : m8 = .none := by cases m8 <;> first | rfl | cases k0
      subst k0'
      have e2 : (some (m1, m2, m3, m4, m5, m6, m7.map (·.1), m15) : InV) = some (d.name, d.qual, d.params, FuncBody.stmts d.body, d.scope, mainGlobals, [("__class__" : Str)], builtinsNs) := e
      simp only [Option.some.injEq, Prod.mk.injEq] at e2; obtain ⟨h1, h2, h3, h4, h5, h6, h7, h8⟩ := e2
      subst h1 h2 h3 h4 h5 h6 h8
      match m7, h7, k3 with
      | [(n1, cc)], h7, k3 =>
        have h7' : n1 = "__class__" := by simpa using h7
        subst h7'
        cases m13 with
        | ref cda =>
          refine ⟨oc, od, osl, m9, m10, m11, m12, cda, m14, cc, rfl, k1, ?_, ?_⟩
          · cases q2 : K.lookup cda with
            | none => simp only [q2] at k2; cases k2
            | some o2 =>
              simp only [q2] at k2
              obtain ⟨a1, a2, a3, a4⟩ := o2
              cases a3 with
              | fields vs =>
                simp only at k2
                cases q3 : vs[2]? with
                | none => rw [q3] at k2; cases k2
                | some v =>
                  rw [q3] at k2
                  cases v with
                  | str f tf => exact ⟨a1, a2, vs, a4, f, tf, rfl, q3, k2⟩
                  | _ => cases k2
              | _ => cases k2
          · cases q2 : K.lookup cc with
            | none => simp only [q2] at k3; cases k3
            | some o2 =>
              simp only [q2] at k3
              obtain ⟨a1, a2, a3, a4⟩ := o2
              cases a3 with
              | cell v =>
                cases v with
                | none => cases k3
                | some v =>
                  cases v with
                  | ref D =>
                    have z : D = He.ga K d.cls := of_decide_eq_true k3
                    exact ⟨a1, a2, a4, by rw [z]⟩
                  | _ => cases k3
              | _ => cases k3
        | _ => cases k2
    | _ => cases c4
/-! ### the Hook -/
abbrev AlP : Type := He.AlD × (Bool × List InV)
def obsP (file : Str) (fa : List He.Fa) (fn : List He.DefD) (xs : List InD) (K : PySem.W.Frag) : AlP := (He.obsD fa fn K, (xs.all fun d => d.ok file K), xs.map fun d => d.obs K)
def valP (fn : List He.DefD) (xs : List InD) : AlP := (He.valD fn, true, xs.map InD.val)
def obsPG (file : Str) (n : Nat) (fa : List He.Fa) (fn : List He.DefD) (xs : List InD) (g : Addr → Option Obj) : AlP := obsP file fa fn xs (He.frG g (cStatics :: He.asD g n))
def hookP (file : Str) (n : Nat) (fa : List He.Fa) (fn : List He.DefD) (xs : List InD) : PySem.W.Hook where
  α := AlP
  obs := fun s => obsPG file n fa fn xs s.heap.get?
  val := fun _ => valP fn xs
  says := fun _ h => ∃ K : PySem.W.Frag, K.In h ∧ obsP file fa fn xs K = valP fn xs
  of := fun _ _ e => ⟨_, He.frG_in, e⟩
  keeps := fun _ _ _ ⟨K, hK, c⟩ kp => ⟨K, PySem.W.Frag.In.keeps hK kp, c⟩
theorem obsPG_eq {file : Str} {n : Nat} {fa : List He.Fa} {fn : List He.DefD} {xs : List InD} {g : Addr → Option Obj} {s : Shared} (h : ∀ a, g a = s.heap.get? a) : obsPG file n fa fn xs g = (hookP file n fa fn xs).obs s := by
  have e : g = s.heap.get? := funext h; rw [e] <;> rfl
theorem saysD {file : Str} {fa : List He.Fa} {fn : List He.DefD} {xs : List InD} {K : PySem.W.Frag} (c : obsP file fa fn xs K = valP fn xs) : He.SaysD fa fn K := congrArg (fun z : AlP => z.1) c
theorem saysX {P : Program} {fa : List He.Fa} {fn : List He.DefD} {xs : List InD} {K : PySem.W.Frag} (c : obsP P.main.file fa fn xs K = valP fn xs) (i : Nat) {d : InD} (h : xs[i]? = some d) : ExcI P K (He.ga K d.cls) (d.at_ K) d.name d.qual d.params d.body d.scope ∧ XfC K (He.ga K d.cls) := by
  have c1 : (xs.all fun d => d.ok P.main.file K) = true := congrArg (fun z : AlP => z.2.1) c
  have c2 : (xs.map fun d => d.obs K) = xs.map InD.val := congrArg (fun z : AlP => z.2.2) c
  have c3 : (xs.map fun d => d.obs K)[i]? = (xs.map InD.val)[i]? := by rw [c2]
  rw [List.getElem?_map, List.getElem?_map, h] at c3
  exact InD.excI (Option.some.inj c3) (List.all_eq_true.mp c1 d (List.mem_of_getElem? h))
/-- a def of the head, in the layer's words -/
theorem funOf {K : PySem.W.Frag} {x : Str} {st : Stmt} {f : Addr} {fd : FuncData} (F : FunD K x x (defArgs st) (defBody st) (defScope st) [] [] f fd) : Fun K x x st f fd := by
  obtain ⟨⟨oc, od, dV, kV, doc, pm, an, cdv, ct, osl, e1, lk, hcd, hD, _⟩, kp⟩ := F; rcases hD with ⟨_, rfl⟩ | ⟨e, _⟩
  · exact ⟨⟨oc, od, kV, doc, pm, an, cdv, ct, osl, e1, lk, hcd⟩, kp⟩
  · exact absurd rfl e
end Pu
/-! Pu19: comparisons by name; sorted of at most two; likeness of two results. -/
namespace Pu
open PySem PySem.Spec PyProof.Rows L2
abbrev cEq : D → D → Option Rs := fun a b => (dEqB a b).map fun k => .dat (.bool k)
abbrev cNe : D → D → Option Rs := fun a b => ((dEqB a b).map (!·)).map fun k => .dat (.bool k)
abbrev cLt : D → D → Option Rs := fun a b => (dLtB a b).map fun k => .dat (.bool k)
abbrev cLe : D → D → Option Rs := fun a b => (dLeB a b).map fun k => .dat (.bool k)
abbrev cGt : D → D → Option Rs := fun a b => (dGtB a b).map fun k => .dat (.bool k)
abbrev cGe : D → D → Option Rs := fun a b => (dGeB a b).map fun k => .dat (.bool k)
abbrev cIn : D → D → Option Rs := fun a b => (dInB a b).map fun k => .dat (.bool k)
abbrev cNotIn : D → D → Option Rs := fun a b => ((dInB a b).map (!·)).map fun k => .dat (.bool k)
theorem roomU {k : Nat} {A : Around} (r : L2H.RoomH k A) : A.units + 64 < cLine := by have := r.un; omega
/-! ### sorted of no more than two whole numbers -/
def dSort2 (d : D) : Option Rs := match seqD d with
  | some [] => some (.fresh [])
  | some [.int i] => some (.fresh [.int i])
  | some [.int i, .int j] => some (.fresh (if i ≤ j then [.int i, .int j] else [.int j, .int i]))
  | _ => none
theorem sort_two (i j : Int) : sortD [.int i, .int j] = if i ≤ j then [.int i, .int j] else [.int j, .int i] := by
  have h : sortD [.int i, .int j] = ([i, j].mergeSort (fun a b => decide (a ≤ b))).map PyData.int := by
    unfold sortD
    have e := PySem.W.dataLe_int (fun b : Int => b)
    have e2 := PySem.W.sort_maps (r := fun a b : Int => decide (a ≤ b)) (s := PySem.W.dataLe false id) PyData.int (l := [i, j]) (fun a _ b _ => by
      have z := congrFun (congrFun e a) b
      exact z.symm)
    exact e2.symm
  rw [h]
  by_cases q : i ≤ j
  · simp [List.mergeSort, List.MergeSort.Internal.splitInTwo, List.merge, q]
  · simp [List.mergeSort, List.MergeSort.Internal.splitInTwo, List.merge, q]
theorem o1_sort2 {X : Cx} : Op1 X.K (fun v => rSortedD X.K [v]) dSort2 := by
  intro Hf H d x res Q e b er q
  refine o1_sorted Hf H d x res Q e b ?_ q
  unfold dSort2 at er
  unfold dSorted
  split at er
  · rename_i h
    cases er
    have z : sortD [] = [] := by unfold sortD; simp
    rw [h, Option.bind_some, if_pos (show sortB [] = true from rfl), z]
  · rename_i i h
    cases er
    have z : sortD [.int i] = [.int i] := by unfold sortD; simp
    rw [h, Option.bind_some, if_pos (show sortB [.int i] = true from rfl), z]
  · rename_i i j h
    cases er
    rw [h, ← sort_two]
    rfl
  · cases er
/-! ### likeness -/
mutual
def sameD : D → D → Bool
  | .none, .none => true
  | .bool a, .bool b => a == b
  | .int a, .int b => decide (a = b)
  | .str a, .str b => decide (a = b)
  | .list a, .list b => sameL a b
  | .tuple a, .tuple b => sameL a b
  | _, _ => false
def sameL : List D → List D → Bool
  | [], [] => true
  | a :: as, b :: bs => sameD a b && sameL as bs
  | _, _ => false
end
mutual
theorem sameD_eq : ∀ a b : D, sameD a b = true → a = b
  | .none, b, h => by cases b <;> first | rfl | cases h
  | .bool a, b, h => by
    cases b with
    | bool b => rw [eq_of_beq (show (a == b) = true from by simpa [sameD] using h)]
    | _ => simp [sameD] at h
  | .int a, b, h => by
    cases b with
    | int b => rw [show a = b from by simpa [sameD] using h]
    | _ => simp [sameD] at h
  | .str a, b, h => by
    cases b with
    | str b => rw [show a = b from by simpa [sameD] using h]
    | _ => simp [sameD] at h
  | .list a, b, h => by
    cases b with
    | list b => rw [sameL_eq a b (by simpa only [sameD] using h)]
    | _ => simp [sameD] at h
  | .tuple a, b, h => by
    cases b with
    | tuple b => rw [sameL_eq a b (by simpa only [sameD] using h)]
    | _ => simp [sameD] at h
  | .dict a, b, h => by simp [sameD] at h
theorem sameL_eq : ∀ a b : List D, sameL a b = true → a = b
  | [], b, h => by cases b <;> first | rfl | simp [sameL] at h
  | a :: as, b, h => by
    cases b with
    | nil => simp [sameL] at h
    | cons b bs =>
      have h' : sameD a b = true ∧ sameL as bs = true := by simpa only [sameL, Bool.and_eq_true] using h
      rw [sameD_eq a b h'.1, sameL_eq as bs h'.2]
end
/-- whole numbers with few signs -/
def fewI (i : Int) : Bool := decide (0 ≤ i ∧ i < 40) || decide (i = 5000)
mutual
def tinyD : D → Bool
  | .none | .str _ | .bool _ => true
  | .int i => fewI i
  | .list xs | .tuple xs => tinyL xs
  | .dict _ => true
def tinyL : List D → Bool
  | [] => true
  | x :: xs => tinyD x && tinyL xs
end
theorem few_short : ∀ i : Int, fewI i = true → (PyData.shown (.int i)).length ≤ 13 := by
  have a : ∀ n : Fin 40, (PyData.shown (.int (n.val : Int))).length ≤ 13 := by decide +kernel
  have b : (PyData.shown (.int 5000)).length ≤ 13 := by decide +kernel
  intro i h; rcases Bool.or_eq_true_iff.mp h with h | h
  · have z := of_decide_eq_true h
    have := a ⟨i.toNat, by omega⟩
    have e : ((⟨i.toNat, by omega⟩ : Fin 40).val : Int) = i := by show ((i.toNat : Nat) : Int) = i; omega
    rw [e] at this
    exact this
  · rw [of_decide_eq_true h]; exact b
mutual
theorem tiny_short : ∀ d : D, tinyD d = true → d.intsShort 13 = true
  | .none, _ => by simp [PyData.intsShort]
  | .bool _, _ => by simp [PyData.intsShort]
  | .str _, _ => by simp [PyData.intsShort]
  | .dict _, _ => by simp [PyData.intsShort]
  | .int i, h => by
    have z := few_short i (by simpa only [tinyD] using h)
    simpa only [PyData.intsShort, decide_eq_true_eq] using z
  | .list xs, h => by
    have z := tinyL_short xs (by simpa only [tinyD] using h)
    simpa only [PyData.intsShort] using z
  | .tuple xs, h => by
    have z := tinyL_short xs (by simpa only [tinyD] using h)
    simpa only [PyData.intsShort] using z
theorem tinyL_short : ∀ ds : List D, tinyL ds = true → PyData.intsShortAll 13 ds = true
  | [], _ => by simp [PyData.intsShortAll]
  | d :: ds, h => by
    have h' : tinyD d = true ∧ tinyL ds = true := by simpa only [tinyL, Bool.and_eq_true] using h
    simp only [PyData.intsShortAll, Bool.and_eq_true]; exact ⟨tiny_short d h'.1, tinyL_short ds h'.2⟩
end
def okRep (a : D) : Bool := match a with
  | .int j => decide (j.natAbs.log2 < 1920)
  | .list xs => okSeq (.list xs)
  | .tuple xs => okSeq (.tuple xs)
  | _ => false
where okSeq (a : D) : Bool := a.plain && a.showable && decide (a.depth ≤ 50) && PyData.layable0 a && tinyD a
def F_alike : Fn := fun β as => match as with
  | [.dat a, .dat b] => if okRep a && sameD a b then some (β, .ok (.dat (.bool true))) else none
  | _ => none
def mAlike : M Fl := mRet (mAndV (mBin cEq (mUn dRep (mVar 0)) (mUn dRep (mVar 1))) (mBin cEq (mVar 0) (mVar 1)))
theorem rep_ok {a : D} (h : okRep a = true) : ∃ z, dRep a = some (.dat (.str z)) ∧ dEqB a a = some true := by
  have seq : ∀ a : D, okRep.okSeq a = true → a.plain = true ∧ a.showable = true ∧ a.depth ≤ 50 ∧ a.shown.length ≤ sizeLine := fun a h => by
    unfold okRep.okSeq at h
    simp only [Bool.and_eq_true, decide_eq_true_eq] at h; obtain ⟨⟨⟨⟨h1, h2⟩, h3⟩, h4⟩, h5⟩ := h
    have := shown_le13 h4 (tiny_short a h5)
    exact ⟨h1, h2, h3, by rw [sizeLine_eq]; omega⟩
  cases a with
  | int i =>
    have z : i.natAbs.log2 < 1920 := by simpa [okRep] using h
    exact ⟨_, if_pos z, by unfold dEqB; simp⟩
  | list xs =>
    obtain ⟨h1, h2, h3, h4⟩ := seq (.list xs) h
    refine ⟨(PyData.list xs).shown, ?_, ?_⟩
    · unfold dRep; simp only [h1, h2, h3, h4, decide_true, Bool.and_self, if_true]
    · unfold dEqB okD; simp only [h1, h3, decide_true, Bool.and_self, if_true, PySem.SeqAt.eqv_refl_plain _ h1]
  | tuple xs =>
    obtain ⟨h1, h2, h3, h4⟩ := seq (.tuple xs) h
    refine ⟨(PyData.tuple xs).shown, ?_, ?_⟩
    · unfold dRep; simp only [h1, h2, h3, h4, decide_true, Bool.and_self, if_true]
    · unfold dEqB okD; simp only [h1, h3, decide_true, Bool.and_self, if_true, PySem.SeqAt.eqv_refl_plain _ h1]
  | _ => cases h
theorem hf_alike (m : M Fl) (h : m = mAlike) (β : Bag) (as : List Ar) (r : Bag × Except Exn Rs) (hl : as.length = 2) (e : F_alike β as = some r) : runDef 2 m β as = some r := by
  subst h
  unfold F_alike at e
  split at e
  · rename_i a b
    split at e
    · rename_i q
      cases e
      rw [Bool.and_eq_true] at q
      obtain rfl := sameD_eq a b q.2
      obtain ⟨z, h1, h2⟩ := rep_ok q.1
      have e1 : ∀ s : S, (mUn dRep (mVar 0)) s = (M.bind (mVar 0) fun r => M.bind (peek r) fun d => M.bind (M.lift (dRep d)) fun r => M.pure r.rv) s := fun _ => rfl
      have st : ∀ s : S, s = ⟨begin 2 [.dat a, .dat a], β⟩ → mAlike s = some (s, .ok (.rt (.dat (.bool true)))) := by
        rintro _ rfl
        have v0 : mVar 0 ⟨begin 2 [.dat a, .dat a], β⟩ = some (⟨begin 2 [.dat a, .dat a], β⟩, .ok (.dat a)) := rfl
        have v1 : mVar 1 ⟨begin 2 [.dat a, .dat a], β⟩ = some (⟨begin 2 [.dat a, .dat a], β⟩, .ok (.dat a)) := rfl
        have pk : ∀ (d : D) (s : S), peek (.dat d) s = some (s, .ok d) := fun _ _ => rfl
        have u0 : mUn dRep (mVar 0) ⟨begin 2 [.dat a, .dat a], β⟩ = some (⟨begin 2 [.dat a, .dat a], β⟩, .ok (.dat (.str z))) := by
          unfold mUn M.bind; simp only [v0, pk, h1, M.lift, M.pure, Rs.rv, Option.map_some]
        have u1 : mUn dRep (mVar 1) ⟨begin 2 [.dat a, .dat a], β⟩ = some (⟨begin 2 [.dat a, .dat a], β⟩, .ok (.dat (.str z))) := by
          unfold mUn M.bind; simp only [v1, pk, h1, M.lift, M.pure, Rs.rv, Option.map_some]
        have sd : ∀ d : D, settle (.dat d) = .dat d := fun _ => rfl
        have c1 : mBin cEq (mUn dRep (mVar 0)) (mUn dRep (mVar 1)) ⟨begin 2 [.dat a, .dat a], β⟩ = some (⟨begin 2 [.dat a, .dat a], β⟩, .ok (.dat (.bool true))) := by
          unfold mBin M.bind; simp only [u0, u1, sd, pk, cEq, dEqB, M.lift, M.pure, Rs.rv, Option.map_some, decide_true]
        have c2 : mBin cEq (mVar 0) (mVar 1) ⟨begin 2 [.dat a, .dat a], β⟩ = some (⟨begin 2 [.dat a, .dat a], β⟩, .ok (.dat (.bool true))) := by
          unfold mBin M.bind; simp only [v0, v1, sd, pk, cEq, h2, M.lift, M.pure, Rs.rv, Option.map_some]
        unfold mAlike mRet mAndV M.bind
        simp only [c1, c2, M.pure]
      unfold runDef
      rw [st _ rfl]
      rfl
    · cases e
  · cases e
end Pu
namespace Pu
open PySem PySem.Spec PyProof.Rows L2
abbrev prg : Program := PySem.Challenge.pw_heldterms_k69_small_worlds
def top (i : Nat) : Stmt := prg.main.body.getD i (.Pass ⟨0, 0, 0, 0⟩)
abbrev s_law_bag : Stmt := top 23
abbrev s_law_power : Stmt := top 28
abbrev s_law_tuples : Stmt := top 26
abbrev s_law_count : Stmt := top 29
abbrev s_law_take : Stmt := top 24
abbrev s_law_alike : Stmt := top 25
abbrev s_law_functions : Stmt := top 27
abbrev s_is_number : Stmt := top 6
abbrev s_is_index : Stmt := top 7
abbrev s_check_numbers : Stmt := top 12
abbrev s_many_tuples : Stmt := top 13
abbrev s_many_keys : Stmt := top 14
abbrev s_how_many_worlds : Stmt := top 15
abbrev s_letters_of : Stmt := top 17
abbrev s_tuples_of : Stmt := top 16
abbrev s_keys_of : Stmt := top 18
abbrev s_tables_of : Stmt := top 19
abbrev s_functions_of : Stmt := top 20
abbrev s_small_worlds : Stmt := top 21
abbrev s_law : Stmt := top 30
def clsInit (st : Stmt) : Stmt := match st with
  | .ClassDef (body := b) .. => b.getD 0 (.Pass ⟨0, 0, 0, 0⟩)
  | _ => .Pass ⟨0, 0, 0, 0⟩
abbrev s_TooLarge : Stmt := clsInit (top 4)
def iTooLarge : InD := ⟨"TooLarge", "__init__", "TooLarge.__init__", defArgs s_TooLarge, defBody s_TooLarge, defScope s_TooLarge⟩
structure Md (K : PySem.W.Frag) (mg : Str → Option Value) where
  f_law_bag : Addr
  fd_law_bag : FuncData
  U_law_bag : Fun K "_law_bag" "_law_bag" s_law_bag f_law_bag fd_law_bag
  g_law_bag : mg "_law_bag" = some (.ref f_law_bag)
  k_law_bag : PySem.W.keepIn K (.ref f_law_bag) = true
  b_law_bag : Binds K fd_law_bag ["script"] []
  f_law_power : Addr
  fd_law_power : FuncData
  U_law_power : Fun K "_law_power" "_law_power" s_law_power f_law_power fd_law_power
  g_law_power : mg "_law_power" = some (.ref f_law_power)
  k_law_power : PySem.W.keepIn K (.ref f_law_power) = true
  b_law_power : Binds K fd_law_power ["number", "many"] []
  f_law_tuples : Addr
  fd_law_tuples : FuncData
  U_law_tuples : Fun K "_law_tuples" "_law_tuples" s_law_tuples f_law_tuples fd_law_tuples
  g_law_tuples : mg "_law_tuples" = some (.ref f_law_tuples)
  k_law_tuples : PySem.W.keepIn K (.ref f_law_tuples) = true
  b_law_tuples : Binds K fd_law_tuples ["many", "length"] []
  f_law_count : Addr
  fd_law_count : FuncData
  U_law_count : Fun K "_law_count" "_law_count" s_law_count f_law_count fd_law_count
  g_law_count : mg "_law_count" = some (.ref f_law_count)
  k_law_count : PySem.W.keepIn K (.ref f_law_count) = true
  b_law_count : Binds K fd_law_count ["program", "many", "anys"] []
  f_law_take : Addr
  fd_law_take : FuncData
  U_law_take : Fun K "_law_take" "_law_take" s_law_take f_law_take fd_law_take
  g_law_take : mg "_law_take" = some (.ref f_law_take)
  k_law_take : PySem.W.keepIn K (.ref f_law_take) = true
  b_law_take : Binds K fd_law_take ["bag", "many"] []
  f_law_alike : Addr
  fd_law_alike : FuncData
  U_law_alike : Fun K "_law_alike" "_law_alike" s_law_alike f_law_alike fd_law_alike
  g_law_alike : mg "_law_alike" = some (.ref f_law_alike)
  k_law_alike : PySem.W.keepIn K (.ref f_law_alike) = true
  b_law_alike : Binds K fd_law_alike ["found", "due"] []
  f_law_functions : Addr
  fd_law_functions : FuncData
  U_law_functions : Fun K "_law_functions" "_law_functions" s_law_functions f_law_functions fd_law_functions
  g_law_functions : mg "_law_functions" = some (.ref f_law_functions)
  k_law_functions : PySem.W.keepIn K (.ref f_law_functions) = true
  b_law_functions : Binds K fd_law_functions ["functions", "many"] []
  f_is_number : Addr
  fd_is_number : FuncData
  U_is_number : Fun K "is_number" "is_number" s_is_number f_is_number fd_is_number
  g_is_number : mg "is_number" = some (.ref f_is_number)
  k_is_number : PySem.W.keepIn K (.ref f_is_number) = true
  b_is_number : Binds K fd_is_number ["thing"] []
  f_is_index : Addr
  fd_is_index : FuncData
  U_is_index : Fun K "is_index" "is_index" s_is_index f_is_index fd_is_index
  g_is_index : mg "is_index" = some (.ref f_is_index)
  k_is_index : PySem.W.keepIn K (.ref f_is_index) = true
  b_is_index : Binds K fd_is_index ["thing"] []
  f_check_numbers : Addr
  fd_check_numbers : FuncData
  U_check_numbers : Fun K "check_numbers" "check_numbers" s_check_numbers f_check_numbers fd_check_numbers
  g_check_numbers : mg "check_numbers" = some (.ref f_check_numbers)
  k_check_numbers : PySem.W.keepIn K (.ref f_check_numbers) = true
  b_check_numbers : Binds K fd_check_numbers ["many", "anys"] []
  f_many_tuples : Addr
  fd_many_tuples : FuncData
  U_many_tuples : Fun K "many_tuples" "many_tuples" s_many_tuples f_many_tuples fd_many_tuples
  g_many_tuples : mg "many_tuples" = some (.ref f_many_tuples)
  k_many_tuples : PySem.W.keepIn K (.ref f_many_tuples) = true
  b_many_tuples : Binds K fd_many_tuples ["many", "size"] []
  f_many_keys : Addr
  fd_many_keys : FuncData
  U_many_keys : Fun K "many_keys" "many_keys" s_many_keys f_many_keys fd_many_keys
  g_many_keys : mg "many_keys" = some (.ref f_many_keys)
  k_many_keys : PySem.W.keepIn K (.ref f_many_keys) = true
  b_many_keys : Binds K fd_many_keys ["function", "many"] []
  f_how_many_worlds : Addr
  fd_how_many_worlds : FuncData
  U_how_many_worlds : Fun K "how_many_worlds" "how_many_worlds" s_how_many_worlds f_how_many_worlds fd_how_many_worlds
  g_how_many_worlds : mg "how_many_worlds" = some (.ref f_how_many_worlds)
  k_how_many_worlds : PySem.W.keepIn K (.ref f_how_many_worlds) = true
  b_how_many_worlds : Binds K fd_how_many_worlds ["program", "many", "anys"] []
  f_letters_of : Addr
  fd_letters_of : FuncData
  U_letters_of : Fun K "letters_of" "letters_of" s_letters_of f_letters_of fd_letters_of
  g_letters_of : mg "letters_of" = some (.ref f_letters_of)
  k_letters_of : PySem.W.keepIn K (.ref f_letters_of) = true
  b_letters_of : Binds K fd_letters_of ["many", "size"] []
  f_tuples_of : Addr
  fd_tuples_of : FuncData
  U_tuples_of : Fun K "tuples_of" "tuples_of" s_tuples_of f_tuples_of fd_tuples_of
  g_tuples_of : mg "tuples_of" = some (.ref f_tuples_of)
  k_tuples_of : PySem.W.keepIn K (.ref f_tuples_of) = true
  b_tuples_of : Binds K fd_tuples_of ["many", "size"] []
  f_keys_of : Addr
  fd_keys_of : FuncData
  U_keys_of : Fun K "keys_of" "keys_of" s_keys_of f_keys_of fd_keys_of
  g_keys_of : mg "keys_of" = some (.ref f_keys_of)
  k_keys_of : PySem.W.keepIn K (.ref f_keys_of) = true
  b_keys_of : Binds K fd_keys_of ["function", "many"] []
  f_tables_of : Addr
  fd_tables_of : FuncData
  U_tables_of : Fun K "tables_of" "tables_of" s_tables_of f_tables_of fd_tables_of
  g_tables_of : mg "tables_of" = some (.ref f_tables_of)
  k_tables_of : PySem.W.keepIn K (.ref f_tables_of) = true
  b_tables_of : Binds K fd_tables_of ["function", "many"] []
  f_functions_of : Addr
  fd_functions_of : FuncData
  U_functions_of : Fun K "functions_of" "functions_of" s_functions_of f_functions_of fd_functions_of
  g_functions_of : mg "functions_of" = some (.ref f_functions_of)
  k_functions_of : PySem.W.keepIn K (.ref f_functions_of) = true
  b_functions_of : Binds K fd_functions_of ["program", "many"] []
  f_small_worlds : Addr
  fd_small_worlds : FuncData
  U_small_worlds : Fun K "small_worlds" "small_worlds" s_small_worlds f_small_worlds fd_small_worlds
  g_small_worlds : mg "small_worlds" = some (.ref f_small_worlds)
  k_small_worlds : PySem.W.keepIn K (.ref f_small_worlds) = true
  b_small_worlds : Binds K fd_small_worlds ["program", "many", "anys"] []
  f_law : Addr
  fd_law : FuncData
  U_law : Fun K "law" "law" s_law f_law fd_law
  g_law : mg "law" = some (.ref f_law)
  k_law : PySem.W.keepIn K (.ref f_law) = true
  b_law : Binds K fd_law ["script"] []
  n_len : mg "len" = none
  n_int : mg "int" = none
  n_abs : mg "abs" = none
  n_tuple : mg "tuple" = none
  n_list : mg "list" = none
  n_sorted : mg "sorted" = none
  n_repr : mg "repr" = none
  n_max : mg "max" = none
  n_isinstance : mg "isinstance" = none
  n_range : mg "range" = none
  n_zip : mg "zip" = none
  n_set : mg "set" = none
  n_bool : mg "bool" = none
  n_super : mg "super" = none
  t_MOST_ANYS : Tok
  i_MOST_ANYS : mg "MOST_ANYS" = some (.int 12 t_MOST_ANYS)
  t_MOST_WORLDS : Tok
  i_MOST_WORLDS : mg "MOST_WORLDS" = some (.int 5000 t_MOST_WORLDS)
  t_MOST_WORTHS : Tok
  i_MOST_WORTHS : mg "MOST_WORTHS" = some (.int 6 t_MOST_WORTHS)
  c_TooLarge : Addr
  j_TooLarge : Addr
  g_TooLarge : mg "TooLarge" = some (.ref c_TooLarge)
  x_TooLarge : ExcI prg K c_TooLarge j_TooLarge iTooLarge.name iTooLarge.qual iTooLarge.params iTooLarge.body iTooLarge.scope
  y_TooLarge : XfC K c_TooLarge
  e_TooLarge : PySem.W.exmOne K (.ref c_TooLarge) (.ref c_TooLarge) = some true
  z_TooLarge_what : PySem.W.findIn K (.ref c_TooLarge) "what" = some none
  z_TooLarge_limit : PySem.W.findIn K (.ref c_TooLarge) "limit" = some none
theorem pm_TooLarge {X : Cx} {k : Nat} {e1 e2 : Expr} {ta : TA} {np pos : Pos} (M : Md X.K X.mg) (hP : X.prog = prg) (hg : Gl X "TooLarge") (hr : Room (k + 1) X.A) (h : PA X [e1, e2] ta)
    (he : starEach [e1, e2] X.env = (false, eval e1 X.env) :: starEach [e2] X.env := by rfl) (hpl : (backTo pos (starEach [e2] X.env)).any (·.1) = false := by rfl) :
    PMk X (.Call (.Name "TooLarge" np) [e1, e2] [] pos) (tMk2 M.c_TooLarge "what" "limit" ta) := by
  have T : ExcI X.prog X.K M.c_TooLarge M.j_TooLarge iTooLarge.name iTooLarge.qual iTooLarge.params iTooLarge.body iTooLarge.scope := by rw [hP]; exact M.x_TooLarge
  refine pmk_exi T hg M.g_TooLarge hr h (fun MM A s R x t0 v1 v2 bk xb hd hx hq => ?_) (by decide) he hpl
  exact exc_init T MM bk xb M.n_super hd hx M.z_TooLarge_what M.z_TooLarge_limit (by decide) rfl (fun _ _ _ _ _ _ _ _ => .of_eq rfl) rfl rfl rfl rfl rfl (by decide +kernel) rfl rfl rfl (by rw [hP]; decide +kernel)
    (fun _ _ _ _ => rfl) (by decide) (by decide) (by decide) (by decide) hq
/-- the handler's meaning -/
def h_law (x : Exn) : M Fl := fun s => match x.fs.lookup ("what" : Str), x.fs.lookup ("limit" : Str) with
  | some dw, some dl => (match F_alike s.β [.dat (.tuple [dw, dl]), .dat (.tuple [.str "worlds", .int 5000])] with
    | some (β', .ok (.dat (.bool true))) => some ({ s with β := β' }, .ok .ct)
    | _ => none)
  | _, _ => none
def N_law_bag : List Str := ["script", "cell"]
theorem sc_law_bag : FnScope N_law_bag ["script"] (defScope s_law_bag) := ⟨rfl, rfl, rfl, by decide +kernel, rfl, by decide +kernel, by decide +kernel⟩
def m_law_bag : M Fl :=
  (mRet (mLst [(mC (.int 0)), (mC (.int 1234567891)), (mC (.int 0)), (mComp [1] (mSeq (mSl (mVar 0) none (some (mC (.int 63))))) (.nm 1) mYes (mUn dAbs (mVar 1)))]))
def F_law_bag : Fn := runDef 2 m_law_bag
theorem d_law_bag {w : World} {K : PySem.W.Frag} {mg : Str → Option Value} {base : Heap} (M : Md K mg) : FnG prg w K mg base (L2.CX prg w) 1 M.f_law_bag M.fd_law_bag ["script"] (SpM K mg 1 F_law_bag) :=
  fnM (m := m_law_bag) M.U_law_bag sc_law_bag (fun cdv A outer s H E hgd hr => have Sc := sc_law_bag; (ess_one (es_ret (ev_lst (ea_cons ev_int (ea_cons ev_int (ea_cons ev_int (ea_cons (ev_lc (own := [("cell", 1)]) rfl Sc.nd (ei_seq (ev_slice (ev_var (pv 0)) eo_none (eo_some ev_int))) (show BlkOk N_law_bag (defScope s_law_bag) _ _ from ⟨rfl, by decide +kernel, by decide +kernel, by decide +kernel, by decide +kernel⟩) (fun _ _ _ _ _ => (eg_name Sc.nd rfl (Or.inl rfl))) (fun _ _ _ _ _ => pts_none) (fun _ _ _ _ _ => (ev_b1 call_abs o1_abs rfl M.n_abs (by decide +kernel) (ev_var (pv 1))))) ea_nil)))))))) fun β as r _ h => h
def N_law_power : List Str := ["number", "many", "found", "k"]
theorem sc_law_power : FnScope N_law_power ["number", "many"] (defScope s_law_power) := ⟨rfl, rfl, rfl, by decide +kernel, rfl, by decide +kernel, by decide +kernel⟩
def m_law_power : M Fl :=
  (mThen (mSet 2 (mC (.int 1))) (mThen (mFor (mRng1 (mVar 1)) (.nm 3) (mSet 2 (mBin dMul (mVar 2) (mVar 0)))) (mRet (mVar 2))))
def F_law_power : Fn := runDef 4 m_law_power
theorem d_law_power {w : World} {K : PySem.W.Frag} {mg : Str → Option Value} {base : Heap} (M : Md K mg) : FnG prg w K mg base (L2.CX prg w) 1 M.f_law_power M.fd_law_power ["number", "many"] (SpM K mg 2 F_law_power) :=
  fnM (m := m_law_power) M.U_law_power sc_law_power (fun cdv A outer s H E hgd hr => have Sc := sc_law_power; (ess_cons (es_set Sc.nd rfl (Or.inl rfl) ev_int) (ess_cons (es_for (passes_of rfl) rfl (ei_rng1 rfl M.n_range (ev_var (pv 1))) (eg_name Sc.nd rfl (Or.inl rfl)) (ess_one (es_set Sc.nd rfl (Or.inl rfl) (ev_bin op_mul op2_mul (ev_var (pv 2)) (ev_var (pv 0)))))) (ess_one (es_ret (ev_var (pv 2))))))) fun β as r _ h => h
def N_law_tuples : List Str := ["many", "length", "found", "k", "longer", "one", "w"]
theorem sc_law_tuples : FnScope N_law_tuples ["many", "length"] (defScope s_law_tuples) := ⟨rfl, rfl, rfl, by decide +kernel, rfl, by decide +kernel, by decide +kernel⟩
def m_law_tuples : M Fl :=
  (mThen (mSet 2 (mLst [(mTup [])])) (mThen (mFor (mRng1 (mVar 1)) (.nm 3) (mThen (mSet 4 (mLst [])) (mThen (mFor (mSeq (mVar 2)) (.nm 5) (mExpr (mExtend 4 (mComp [6] (mRng1 (mVar 0)) (.nm 6) mYes (mBin dAdd (mVar 5) (mTup [(mVar 6)])))))) (mSet 2 (mVar 4))))) (mRet (mVar 2))))
def F_law_tuples : Fn := runDef 7 m_law_tuples
theorem d_law_tuples {w : World} {K : PySem.W.Frag} {mg : Str → Option Value} {base : Heap} (M : Md K mg) : FnG prg w K mg base (L2.CX prg w) 1 M.f_law_tuples M.fd_law_tuples ["many", "length"] (SpM K mg 2 F_law_tuples) :=
  fnM (m := m_law_tuples) M.U_law_tuples sc_law_tuples (fun cdv A outer s H E hgd hr => have Sc := sc_law_tuples; (ess_cons (es_set Sc.nd rfl (Or.inl rfl) (ev_lst (ea_cons (ev_tup ea_nil) ea_nil))) (ess_cons (es_for (passes_of rfl) rfl (ei_rng1 rfl M.n_range (ev_var (pv 1))) (eg_name Sc.nd rfl (Or.inl rfl)) (ess_cons (es_set Sc.nd rfl (Or.inl rfl) (ev_lst ea_nil)) (ess_cons (es_for (passes_of rfl) rfl (ei_seq (ev_var (pv 2))) (eg_name Sc.nd rfl (Or.inr rfl)) (ess_one (es_expr (ev_extend (pe_bm PySem.F.plainAttrs_list PySem.F.slot_list_extend PySem.F.type_list_extend mt_extend (pv 4) (pa_cons (ev_lc (own := [("w", 6)]) rfl Sc.nd (ei_rng1 rfl M.n_range (ev_var (pv 0))) (show BlkOk N_law_tuples (defScope s_law_tuples) _ _ from ⟨rfl, by decide +kernel, by decide +kernel, by decide +kernel, by decide +kernel⟩) (fun _ _ _ _ _ => (eg_name Sc.nd rfl (Or.inl rfl))) (fun _ _ _ _ _ => pts_none) (fun _ _ _ _ _ => (ev_bin op_addD op2_add (ev_var (pv 5)) (ev_tup (ea_cons (ev_var (pv 6)) ea_nil))))) pa_nil)))))) (ess_one (es_set Sc.nd rfl (Or.inl rfl) (ev_var (pv 4))))))) (ess_one (es_ret (ev_var (pv 2))))))) fun β as r _ h => h
def N_law_count : List Str := ["program", "many", "anys", "found", "k", "f", "parts", "how", "keys", "key"]
theorem sc_law_count : FnScope N_law_count ["program", "many", "anys"] (defScope s_law_count) := ⟨rfl, rfl, rfl, by decide +kernel, rfl, by decide +kernel, by decide +kernel⟩
def m_law_count : M Fl :=
  (mThen (mSet 3 (mCall F_law_power [(mVar 1), (mBin dAdd (mUn dLen (mBin dIx (mVar 0) (mC (.int 3)))) (mVar 2))])) (mThen (mFor (mRng1 (mUn dLen (mBin dIx (mVar 0) (mC (.int 1))))) (.nm 4) (mSet 3 (mBin dMul (mVar 3) (mBin dMax (mC (.int 0)) (mBin dSub (mVar 1) (mVar 4)))))) (mThen (mFor (mSeq (mBin dIx (mVar 0) (mC (.int 0)))) (.tup [(.nm 5), (.nm 6), (.nm 7)]) (mThen (mSet 8 (mUn dLen (mComp [9] (mSeq (mCall F_law_tuples [(mVar 1), (mVar 6)])) (.nm 9) (mOrT (mIs (mBin cEq (mVar 7) (mC (.str "told")))) (mIs (mBin cEq (mUn dList (mVar 9)) (mUn dSort2 (mVar 9))))) (mVar 9)))) (mSet 3 (mBin dMul (mVar 3) (mCall F_law_power [(mVar 1), (mVar 8)]))))) (mRet (mVar 3)))))
def F_law_count : Fn := runDef 10 m_law_count
theorem d_law_count {w : World} {K : PySem.W.Frag} {mg : Str → Option Value} {base : Heap} (M : Md K mg) : FnG prg w K mg base (L2.CX prg w) 2 M.f_law_count M.fd_law_count ["program", "many", "anys"] (SpM K mg 3 F_law_count) :=
  fnM (m := m_law_count) M.U_law_count sc_law_count (fun cdv A outer s H E hgd hr => have Sc := sc_law_count; (ess_cons (es_set Sc.nd rfl (Or.inl rfl) (ev_call (k := 1) ((d_law_power M).mono (by decide)) hgd (hr.mono (by decide)) (takes_of rfl rfl rfl rfl) rfl M.g_law_power M.k_law_power M.b_law_power (ea_cons (ev_var (pv 1)) (ea_cons (ev_bin op_addD op2_add (ev_b1 call_len o1_len rfl M.n_len boot_len (ev_ix ix_seq op2_ix (ev_var (pv 0)) ev_int fun _ _ => rfl)) (ev_var (pv 2))) ea_nil)))) (ess_cons (es_for (passes_of rfl) rfl (ei_rng1 rfl M.n_range (ev_b1 call_len o1_len rfl M.n_len boot_len (ev_ix ix_seq op2_ix (ev_var (pv 0)) ev_int fun _ _ => rfl))) (eg_name Sc.nd rfl (Or.inl rfl)) (ess_one (es_set Sc.nd rfl (Or.inl rfl) (ev_bin op_mul op2_mul (ev_var (pv 3)) (ev_b2 (call_max2 rfl) o2_max rfl M.n_max (by decide +kernel) ev_int (ev_bin op_sub op2_sub (ev_var (pv 1)) (ev_var (pv 4)))))))) (ess_cons (es_for (passes_of rfl) rfl (ei_seq (ev_ix ix_seq op2_ix (ev_var (pv 0)) ev_int fun _ _ => rfl)) (eg_tup rfl (egs_cons (eg_name Sc.nd rfl (Or.inl rfl)) (egs_cons (eg_name Sc.nd rfl (Or.inl rfl)) (egs_cons (eg_name Sc.nd rfl (Or.inr rfl)) egs_nil)))) (ess_cons (es_set Sc.nd rfl (Or.inl rfl) (ev_b1 call_len o1_len rfl M.n_len boot_len (ev_lc (own := [("key", 9)]) rfl Sc.nd (ei_seq (ev_call (k := 1) ((d_law_tuples M).mono (by decide)) hgd (hr.mono (by decide)) (takes_of rfl rfl rfl rfl) rfl M.g_law_tuples M.k_law_tuples M.b_law_tuples (ea_cons (ev_var (pv 1)) (ea_cons (ev_var (pv 6)) ea_nil)))) (show BlkOk N_law_count (defScope s_law_count) _ _ from ⟨rfl, by decide +kernel, by decide +kernel, by decide +kernel, by decide +kernel⟩) (fun _ _ _ _ _ => (eg_name Sc.nd rfl (Or.inl rfl))) (fun _ _ _ _ _ => (pts_m (et_w (ew_or (et_cmp (op_eqD (Room.units hr)) op2_D (ev_var (pv 7)) ev_str (nomark _)) (ew_or1 (et_cmp (op_eqD (Room.units hr)) op2_D (ev_t1 call_list_of o1_list rfl M.n_list (by decide +kernel) (ev_var (pv 9))) (ev_b1 (call_sortedD (Room.units hr)) o1_sort2 rfl M.n_sorted (by decide +kernel) (ev_var (pv 9))) (nomark _))))))) (fun _ _ _ _ _ => (ev_var (pv 9)))))) (ess_one (es_set Sc.nd rfl (Or.inl rfl) (ev_bin op_mul op2_mul (ev_var (pv 3)) (ev_call (k := 1) ((d_law_power M).mono (by decide)) hgd (hr.mono (by decide)) (takes_of rfl rfl rfl rfl) rfl M.g_law_power M.k_law_power M.b_law_power (ea_cons (ev_var (pv 1)) (ea_cons (ev_var (pv 8)) ea_nil)))))))) (ess_one (es_ret (ev_var (pv 3)))))))) fun β as r _ h => h
def N_law_take : List Str := ["bag", "many", "begin", "second", "cell", "stirred", "value"]
theorem sc_law_take : FnScope N_law_take ["bag", "many"] (defScope s_law_take) := ⟨rfl, rfl, rfl, by decide +kernel, rfl, by decide +kernel, by decide +kernel⟩
def m_law_take : M Fl :=
  (mThen (mIfS (mIs (mBin cEq (mBagIx 0 0) (mC (.int 0)))) (mThen (mSet 4 (mBin dIx (mBin dAdd (mSl (mBagIx 0 3) (some (mBagIx 0 2)) none) (mLst [(mC (.int 0))])) (mC (.int 0)))) (mThen (mBagAug 0 2 (mC (.int 1))) (mThen (mIfS (mIs (mBin cGe (mVar 4) (mBin dPow (mC (.int 10)) (mC (.int 18))))) (mBagSet 0 0 (mVar 4)) mNx) (mThen (mSet 5 (mBin dAdd (mBin dAdd (mBin dMul (mBagIx 0 1) (mC (.int 48271))) (mBin dMod (mUn dInt (mVar 4)) (mC (.int 2147483647)))) (mBin dMul (mC (.int 7919)) (mBagIx 0 2)))) (mBagSet 0 1 (mBin dMod (mUn dInt (mVar 5)) (mC (.int 2147483647)))))))) mNx) (mThen (mIfS (mIs (mBin cGt (mBagIx 0 0) (mC (.int 0)))) (mThen (mSet 6 (mBin dMod (mUn dInt (mBagIx 0 0)) (mVar 1))) (mThen (mBagSet 0 0 (mBin dFdivW (mUn dInt (mBagIx 0 0)) (mVar 1))) (mRet (mVar 6)))) mNx) (mThen (mSet 2 (mBin dMod (mUn dInt (mBin dMul (mBin dAdd (mBagIx 0 1) (mC (.int 1))) (mC (.int 39373)))) (mC (.int 1000000007)))) (mThen (mSet 3 (mBin dMod (mUn dInt (mBin dMul (mBin dMod (mUn dInt (mBin dMul (mVar 2) (mVar 2))) (mC (.int 998244353))) (mC (.int 30011)))) (mC (.int 998244353)))) (mRet (mBin dMod (mUn dInt (mBin dFdivW (mVar 3) (mC (.int 7)))) (mVar 1)))))))
def F_law_take : Fn := runDef 7 m_law_take
theorem d_law_take {w : World} {K : PySem.W.Frag} {mg : Str → Option Value} {base : Heap} (M : Md K mg) : FnG prg w K mg base (L2.CX prg w) 1 M.f_law_take M.fd_law_take ["bag", "many"] (SpM K mg 2 F_law_take) :=
  fnM (m := m_law_take) M.U_law_take sc_law_take (fun cdv A outer s H E hgd hr => have Sc := sc_law_take; (ess_cons (es_if (et_cmp (op_eqD (Room.units hr)) op2_D (ev_bagIx (pv 0) fun _ _ => rfl) ev_int (nomark _)) (ess_cons (es_set Sc.nd rfl (Or.inl rfl) (ev_ix ix_seq op2_ix (ev_bin op_addD op2_add (ev_slice (ev_bagIx (pv 0) fun _ _ => rfl) (eo_some (ev_bagIx (pv 0) fun _ _ => rfl)) eo_none) (ev_lst (ea_cons ev_int ea_nil))) ev_int fun _ _ => rfl)) (ess_cons (es_bagAug (pv 0) ev_int) (ess_cons (es_if (et_cmp (op_geD (Room.units hr)) op2_D (ev_var (pv 4)) (ev_bin op_pow op2_pow ev_int ev_int) (nomark _)) (ess_one (es_bagSet (pv 0) (ev_var (pv 4)))) ess_nil) (ess_cons (es_set Sc.nd rfl (Or.inl rfl) (ev_bin op_addD op2_add (ev_bin op_addD op2_add (ev_bin op_mul op2_mul (ev_bagIx (pv 0) fun _ _ => rfl) ev_int) (ev_bin op_mod op2_mod (ev_t1 call_int1 o1_int rfl M.n_int (by decide +kernel) (ev_var (pv 4))) ev_int)) (ev_bin op_mul op2_mul ev_int (ev_bagIx (pv 0) fun _ _ => rfl)))) (ess_one (es_bagSet (pv 0) (ev_bin op_mod op2_mod (ev_t1 call_int1 o1_int rfl M.n_int (by decide +kernel) (ev_var (pv 5))) ev_int))))))) ess_nil) (ess_cons (es_if (et_cmp (op_gtD (Room.units hr)) op2_D (ev_bagIx (pv 0) fun _ _ => rfl) ev_int (nomark _)) (ess_cons (es_set Sc.nd rfl (Or.inl rfl) (ev_bin op_mod op2_mod (ev_t1 call_int1 o1_int rfl M.n_int (by decide +kernel) (ev_bagIx (pv 0) fun _ _ => rfl)) (ev_var (pv 1)))) (ess_cons (es_bagSet (pv 0) (ev_bin op_fdivW op2_fdivW (ev_t1 call_int1 o1_int rfl M.n_int (by decide +kernel) (ev_bagIx (pv 0) fun _ _ => rfl)) (ev_var (pv 1)))) (ess_one (es_ret (ev_var (pv 6)))))) ess_nil) (ess_cons (es_set Sc.nd rfl (Or.inl rfl) (ev_bin op_mod op2_mod (ev_t1 call_int1 o1_int rfl M.n_int (by decide +kernel) (ev_bin op_mul op2_mul (ev_bin op_addD op2_add (ev_bagIx (pv 0) fun _ _ => rfl) ev_int) ev_int)) ev_int)) (ess_cons (es_set Sc.nd rfl (Or.inl rfl) (ev_bin op_mod op2_mod (ev_t1 call_int1 o1_int rfl M.n_int (by decide +kernel) (ev_bin op_mul op2_mul (ev_bin op_mod op2_mod (ev_t1 call_int1 o1_int rfl M.n_int (by decide +kernel) (ev_bin op_mul op2_mul (ev_var (pv 2)) (ev_var (pv 2)))) ev_int) ev_int)) ev_int)) (ess_one (es_ret (ev_bin op_mod op2_mod (ev_t1 call_int1 o1_int rfl M.n_int (by decide +kernel) (ev_bin op_fdivW op2_fdivW (ev_var (pv 3)) ev_int)) (ev_var (pv 1)))))))))) fun β as r _ h => h
def N_law_alike : List Str := ["found", "due"]
theorem sc_law_alike : FnScope N_law_alike ["found", "due"] (defScope s_law_alike) := ⟨rfl, rfl, rfl, by decide +kernel, rfl, by decide +kernel, by decide +kernel⟩
def m_law_alike : M Fl :=
  (mRet (mAndV (mBin cEq (mUn dRep (mVar 0)) (mUn dRep (mVar 1))) (mBin cEq (mVar 0) (mVar 1))))
theorem d_law_alike {w : World} {K : PySem.W.Frag} {mg : Str → Option Value} {base : Heap} (M : Md K mg) : FnG prg w K mg base (L2.CX prg w) 1 M.f_law_alike M.fd_law_alike ["found", "due"] (SpM K mg 2 F_alike) :=
  fnM (m := m_law_alike) M.U_law_alike sc_law_alike (fun cdv A outer s H E hgd hr => have Sc := sc_law_alike; (ess_one (es_ret (ev_and (ev_cmp (op_eqD (Room.units hr)) op2_D (ev_b1 (call_repD (Room.units hr) hgd) o1_rep rfl M.n_repr (by decide +kernel) (ev_var (pv 0))) (ev_b1 (call_repD (Room.units hr) hgd) o1_rep rfl M.n_repr (by decide +kernel) (ev_var (pv 1))) (nomark _)) (ev_one (ev_cmp (op_eqD (Room.units hr)) op2_D (ev_var (pv 0)) (ev_var (pv 1)) (nomark _))))))) (hf_alike _ rfl)
theorem dh_law_alike {w : World} {K : PySem.W.Frag} {mg : Str → Option Value} {base : Heap} (M : Md K mg) : FnK prg w K mg base (L2.CX prg w) 1 M.f_law_alike M.fd_law_alike ["found", "due"] (SpM K mg 2 F_alike) :=
  fnMH (m := m_law_alike) M.U_law_alike sc_law_alike (fun cdv A outer s H E p hgd hr => have Sc := sc_law_alike; (ess_one (es_ret (ev_and (ev_cmp (op_eqD (roomU hr)) op2_D (ev_b1 (call_repD (roomU hr) hgd) o1_rep rfl M.n_repr (by decide +kernel) (ev_var (pv 0))) (ev_b1 (call_repD (roomU hr) hgd) o1_rep rfl M.n_repr (by decide +kernel) (ev_var (pv 1))) (nomark _)) (ev_one (ev_cmp (op_eqD (roomU hr)) op2_D (ev_var (pv 0)) (ev_var (pv 1)) (nomark _))))))) (hf_alike _ rfl)
def N_law_functions : List Str := ["functions", "many", "lots", "f", "parts", "how", "keys", "its", "worths", "longer", "lot", "key", "one", "worth"]
theorem sc_law_functions : FnScope N_law_functions ["functions", "many"] (defScope s_law_functions) := ⟨rfl, rfl, rfl, by decide +kernel, rfl, by decide +kernel, by decide +kernel⟩
def m_law_functions : M Fl :=
  (mThen (mSet 2 (mLst [(mTup [])])) (mThen (mFor (mSeq (mVar 0)) (.tup [(.nm 3), (.nm 4), (.nm 5)]) (mThen (mSet 6 (mComp [11] (mSeq (mCall F_law_tuples [(mVar 1), (mVar 4)])) (.nm 11) (mOrT (mIs (mBin cEq (mVar 5) (mC (.str "told")))) (mIs (mBin cEq (mUn dList (mVar 11)) (mUn dSort2 (mVar 11))))) (mVar 11))) (mThen (mSet 7 (mLst [])) (mThen (mFor (mSeq (mCall F_law_tuples [(mVar 1), (mUn dLen (mVar 6))])) (.nm 8) (mExpr (mAppend 7 (mTup [(mUn dTuple (mComp [11, 13] (mZip (mVar 6) (mVar 8)) (.tup [(.nm 11), (.nm 13)]) (mIs (mBin cNe (mVar 13) (mC (.int 0)))) (mTup [(mVar 11), (mVar 13)]))), (mC (.int 0))])))) (mThen (mSet 9 (mLst [])) (mThen (mFor (mSeq (mVar 2)) (.nm 10) (mExpr (mExtend 9 (mComp [12] (mSeq (mVar 7)) (.nm 12) mYes (mBin dAdd (mVar 10) (mTup [(mVar 12)])))))) (mSet 2 (mVar 9)))))))) (mRet (mVar 2))))
def F_law_functions : Fn := runDef 14 m_law_functions
theorem d_law_functions {w : World} {K : PySem.W.Frag} {mg : Str → Option Value} {base : Heap} (M : Md K mg) : FnG prg w K mg base (L2.CX prg w) 2 M.f_law_functions M.fd_law_functions ["functions", "many"] (SpM K mg 2 F_law_functions) :=
  fnM (m := m_law_functions) M.U_law_functions sc_law_functions (fun cdv A outer s H E hgd hr => have Sc := sc_law_functions; (ess_cons (es_set Sc.nd rfl (Or.inl rfl) (ev_lst (ea_cons (ev_tup ea_nil) ea_nil))) (ess_cons (es_for (passes_of rfl) rfl (ei_seq (ev_var (pv 0))) (eg_tup rfl (egs_cons (eg_name Sc.nd rfl (Or.inl rfl)) (egs_cons (eg_name Sc.nd rfl (Or.inl rfl)) (egs_cons (eg_name Sc.nd rfl (Or.inr rfl)) egs_nil)))) (ess_cons (es_setLc (own := [("key", 11)]) rfl Sc.nd rfl rfl (sw_true rfl rfl rfl (by decide +kernel)) (ei_seq (ev_call (k := 1) ((d_law_tuples M).mono (by decide)) hgd (hr.mono (by decide)) (takes_of rfl rfl rfl rfl) rfl M.g_law_tuples M.k_law_tuples M.b_law_tuples (ea_cons (ev_var (pv 1)) (ea_cons (ev_var (pv 4)) ea_nil)))) (show BlkOk N_law_functions (defScope s_law_functions) _ _ from ⟨rfl, by decide +kernel, by decide +kernel, by decide +kernel, by decide +kernel⟩) (fun _ _ _ _ _ => (eg_name Sc.nd rfl (Or.inl rfl))) (fun _ _ _ _ _ => (pts_m (et_w (ew_or (et_cmp (op_eqD (Room.units hr)) op2_D (ev_var (pv 5)) ev_str (nomark _)) (ew_or1 (et_cmp (op_eqD (Room.units hr)) op2_D (ev_t1 call_list_of o1_list rfl M.n_list (by decide +kernel) (ev_var (pv 11))) (ev_b1 (call_sortedD (Room.units hr)) o1_sort2 rfl M.n_sorted (by decide +kernel) (ev_var (pv 11))) (nomark _))))))) (fun _ _ _ _ _ => (ev_var (pv 11)))) (ess_cons (es_set Sc.nd rfl (Or.inl rfl) (ev_lst ea_nil)) (ess_cons (es_for (passes_of rfl) rfl (ei_seq (ev_call (k := 1) ((d_law_tuples M).mono (by decide)) hgd (hr.mono (by decide)) (takes_of rfl rfl rfl rfl) rfl M.g_law_tuples M.k_law_tuples M.b_law_tuples (ea_cons (ev_var (pv 1)) (ea_cons (ev_b1 call_len o1_len rfl M.n_len boot_len (ev_var (pv 6))) ea_nil)))) (eg_name Sc.nd rfl (Or.inl rfl)) (ess_one (es_expr (ev_append (pe_bm PySem.F.plainAttrs_list PySem.F.slot_list_append PySem.F.type_list_append mt_append (pv 7) (pa_cons (ev_tup (ea_cons (ev_t1 call_tuple_of o1_tuple rfl M.n_tuple (by decide +kernel) (ev_lc (own := [("key", 11), ("worth", 13)]) rfl Sc.nd (ei_zip rfl M.n_zip (ev_var (pv 6)) (ev_var (pv 8))) (show BlkOk N_law_functions (defScope s_law_functions) _ _ from ⟨rfl, by decide +kernel, by decide +kernel, by decide +kernel, by decide +kernel⟩) (fun _ _ _ _ _ => (eg_tup rfl (egs_cons (eg_name Sc.nd rfl (Or.inl rfl)) (egs_cons (eg_name Sc.nd rfl (Or.inl rfl)) egs_nil)))) (fun _ _ _ _ _ => (pts_m (et_cmp (op_neD (Room.units hr)) op2_D (ev_var (pv 13)) ev_int (nomark _)))) (fun _ _ _ _ _ => (ev_tup (ea_cons (ev_var (pv 11)) (ea_cons (ev_var (pv 13)) ea_nil)))))) (ea_cons ev_int ea_nil))) pa_nil)))))) (ess_cons (es_set Sc.nd rfl (Or.inl rfl) (ev_lst ea_nil)) (ess_cons (es_for (passes_of rfl) rfl (ei_seq (ev_var (pv 2))) (eg_name Sc.nd rfl (Or.inr rfl)) (ess_one (es_expr (ev_extend (pe_bm PySem.F.plainAttrs_list PySem.F.slot_list_extend PySem.F.type_list_extend mt_extend (pv 9) (pa_cons (ev_lc (own := [("one", 12)]) rfl Sc.nd (ei_seq (ev_var (pv 7))) (show BlkOk N_law_functions (defScope s_law_functions) _ _ from ⟨rfl, by decide +kernel, by decide +kernel, by decide +kernel, by decide +kernel⟩) (fun _ _ _ _ _ => (eg_name Sc.nd rfl (Or.inl rfl))) (fun _ _ _ _ _ => pts_none) (fun _ _ _ _ _ => (ev_bin op_addD op2_add (ev_var (pv 10)) (ev_tup (ea_cons (ev_var (pv 12)) ea_nil))))) pa_nil)))))) (ess_one (es_set Sc.nd rfl (Or.inl rfl) (ev_var (pv 9)))))))))) (ess_one (es_ret (ev_var (pv 2))))))) fun β as r _ h => h
def N_is_number : List Str := ["thing"]
theorem sc_is_number : FnScope N_is_number ["thing"] (defScope s_is_number) := ⟨rfl, rfl, rfl, by decide +kernel, rfl, by decide +kernel, by decide +kernel⟩
def m_is_number : M Fl :=
  (mRet (mAndV (mUn (dIs PyData.isInt) (mVar 0)) (mNotV (mUn (dIs PyData.isBool) (mVar 0)))))
def F_is_number : Fn := runDef 1 m_is_number
theorem d_is_number {w : World} {K : PySem.W.Frag} {mg : Str → Option Value} {base : Heap} (M : Md K mg) : FnG prg w K mg base (L2.CX prg w) 1 M.f_is_number M.fd_is_number ["thing"] (SpM K mg 1 F_is_number) :=
  fnM (m := m_is_number) M.U_is_number sc_is_number (fun cdv A outer s H E hgd hr => have Sc := sc_is_number; (ess_one (es_ret (ev_and (ev_isi (T := "int") call_isInt o1_is rfl M.n_isinstance rfl M.n_int (by decide +kernel) (ev_var (pv 0))) (ev_one (ev_not (ev_isi (T := "bool") call_isBool o1_is rfl M.n_isinstance rfl M.n_bool (by decide +kernel) (ev_var (pv 0))))))))) fun β as r _ h => h
def N_is_index : List Str := ["thing"]
theorem sc_is_index : FnScope N_is_index ["thing"] (defScope s_is_index) := ⟨rfl, rfl, rfl, by decide +kernel, rfl, by decide +kernel, by decide +kernel⟩
def m_is_index : M Fl :=
  (mRet (mAndV (mCall F_is_number [(mVar 0)]) (mBin cGe (mVar 0) (mC (.int 0)))))
def F_is_index : Fn := runDef 1 m_is_index
theorem d_is_index {w : World} {K : PySem.W.Frag} {mg : Str → Option Value} {base : Heap} (M : Md K mg) : FnG prg w K mg base (L2.CX prg w) 2 M.f_is_index M.fd_is_index ["thing"] (SpM K mg 1 F_is_index) :=
  fnM (m := m_is_index) M.U_is_index sc_is_index (fun cdv A outer s H E hgd hr => have Sc := sc_is_index; (ess_one (es_ret (ev_and (ev_call (k := 1) ((d_is_number M).mono (by decide)) hgd (hr.mono (by decide)) (takes_of rfl rfl rfl rfl) rfl M.g_is_number M.k_is_number M.b_is_number (ea_cons (ev_var (pv 0)) ea_nil)) (ev_one (ev_cmp (op_geD (Room.units hr)) op2_D (ev_var (pv 0)) ev_int (nomark _))))))) fun β as r _ h => h
def N_check_numbers : List Str := ["many", "anys"]
theorem sc_check_numbers : FnScope N_check_numbers ["many", "anys"] (defScope s_check_numbers) := ⟨rfl, rfl, rfl, by decide +kernel, rfl, by decide +kernel, by decide +kernel⟩
def m_check_numbers : M Fl :=
  (mIfS (mOrT (mNotT (mIs (mCall F_is_index [(mVar 0)]))) (mOrT (mNotT (mIs (mChain dLeB dLeB (mC (.int 1)) (mVar 0) (mC (.int 6))))) (mOrT (mNotT (mIs (mCall F_is_index [(mVar 1)]))) (mIs (mBin cGt (mVar 1) (mC (.int 12))))))) M.stuck mNx)
def F_check_numbers : Fn := runDef 2 m_check_numbers
theorem d_check_numbers {w : World} {K : PySem.W.Frag} {mg : Str → Option Value} {base : Heap} (M : Md K mg) : FnG prg w K mg base (L2.CX prg w) 3 M.f_check_numbers M.fd_check_numbers ["many", "anys"] (SpM K mg 2 F_check_numbers) :=
  fnM (m := m_check_numbers) M.U_check_numbers sc_check_numbers (fun cdv A outer s H E hgd hr => have Sc := sc_check_numbers; (ess_one (es_if (et_w (ew_or (et_not (et_val (ev_call (k := 2) ((d_is_index M).mono (by decide)) hgd (hr.mono (by decide)) (takes_of rfl rfl rfl rfl) rfl M.g_is_index M.k_is_index M.b_is_index (ea_cons (ev_var (pv 0)) ea_nil)))) (ew_or (et_not (et_chain (op_leD (Room.units hr)) (op_leD (Room.units hr)) ev_int (ev_var (pv 0)) (ev_gInt rfl M.i_MOST_WORTHS))) (ew_or (et_not (et_val (ev_call (k := 2) ((d_is_index M).mono (by decide)) hgd (hr.mono (by decide)) (takes_of rfl rfl rfl rfl) rfl M.g_is_index M.k_is_index M.b_is_index (ea_cons (ev_var (pv 1)) ea_nil)))) (ew_or1 (et_cmp (op_gtD (Room.units hr)) op2_D (ev_var (pv 1)) (ev_gInt rfl M.i_MOST_ANYS) (nomark _))))))) (ess_one es_never) ess_nil))) fun β as r _ h => h
def N_many_tuples : List Str := ["many", "size", "found", "_item"]
theorem sc_many_tuples : FnScope N_many_tuples ["many", "size"] (defScope s_many_tuples) := ⟨rfl, rfl, rfl, by decide +kernel, rfl, by decide +kernel, by decide +kernel⟩
def m_many_tuples : M Fl :=
  (mThen (mSet 2 (mC (.int 1))) (mThen (mFor (mRng1 (mVar 1)) (.nm 3) (mAug 2 dMul (mVar 0))) (mRet (mVar 2))))
def F_many_tuples : Fn := runDef 4 m_many_tuples
theorem d_many_tuples {w : World} {K : PySem.W.Frag} {mg : Str → Option Value} {base : Heap} (M : Md K mg) : FnG prg w K mg base (L2.CX prg w) 1 M.f_many_tuples M.fd_many_tuples ["many", "size"] (SpM K mg 2 F_many_tuples) :=
  fnM (m := m_many_tuples) M.U_many_tuples sc_many_tuples (fun cdv A outer s H E hgd hr => have Sc := sc_many_tuples; (ess_cons (es_set Sc.nd rfl (Or.inl rfl) ev_int) (ess_cons (es_for (passes_of rfl) rfl (ei_rng1 rfl M.n_range (ev_var (pv 1))) (eg_name Sc.nd rfl (Or.inl rfl)) (ess_one (es_aug Sc.nd rfl (Or.inl rfl) iop_mul op2_mul (ev_var (pv 0))))) (ess_one (es_ret (ev_var (pv 2))))))) fun β as r _ h => h
def N_many_keys : List Str := ["function", "many"]
theorem sc_many_keys : FnScope N_many_keys ["function", "many"] (defScope s_many_keys) := ⟨rfl, rfl, rfl, by decide +kernel, rfl, by decide +kernel, by decide +kernel⟩
def m_many_keys : M Fl :=
  (mThen (mIfS (mIs (mBin cEq (mBin dIx (mVar 0) (mC (.int 2))) (mC (.str "either")))) (mRet (mBin dFdivW (mBin dMul (mVar 1) (mBin dAdd (mVar 1) (mC (.int 1)))) (mC (.int 2)))) mNx) (mRet (mCall F_many_tuples [(mVar 1), (mBin dIx (mVar 0) (mC (.int 1)))])))
def F_many_keys : Fn := runDef 2 m_many_keys
theorem d_many_keys {w : World} {K : PySem.W.Frag} {mg : Str → Option Value} {base : Heap} (M : Md K mg) : FnG prg w K mg base (L2.CX prg w) 2 M.f_many_keys M.fd_many_keys ["function", "many"] (SpM K mg 2 F_many_keys) :=
  fnM (m := m_many_keys) M.U_many_keys sc_many_keys (fun cdv A outer s H E hgd hr => have Sc := sc_many_keys; (ess_cons (es_if (et_cmp (op_eqD (Room.units hr)) op2_D (ev_ix ix_seq op2_ix (ev_var (pv 0)) ev_int fun _ _ => rfl) ev_str (nomark _)) (ess_one (es_ret (ev_bin op_fdivW op2_fdivW (ev_bin op_mul op2_mul (ev_var (pv 1)) (ev_bin op_addD op2_add (ev_var (pv 1)) ev_int)) ev_int))) ess_nil) (ess_one (es_ret (ev_call (k := 1) ((d_many_tuples M).mono (by decide)) hgd (hr.mono (by decide)) (takes_of rfl rfl rfl rfl) rfl M.g_many_tuples M.k_many_tuples M.b_many_tuples (ea_cons (ev_var (pv 1)) (ea_cons (ev_ix ix_seq op2_ix (ev_var (pv 0)) ev_int fun _ _ => rfl) ea_nil))))))) fun β as r _ h => h
def N_how_many_worlds : List Str := ["program", "many", "anys", "found", "at", "function"]
theorem sc_how_many_worlds : FnScope N_how_many_worlds ["program", "many", "anys"] (defScope s_how_many_worlds) := ⟨rfl, rfl, rfl, by decide +kernel, rfl, by decide +kernel, by decide +kernel⟩
def m_how_many_worlds : M Fl :=
  (mThen (mExpr (mCall F_check_numbers [(mVar 1), (mVar 2)])) (mThen (mSet 3 (mCall F_many_tuples [(mVar 1), (mBin dAdd (mUn dLen (mBin dIx (mVar 0) (mC (.int 3)))) (mVar 2))])) (mThen (mFor (mRng1 (mUn dLen (mBin dIx (mVar 0) (mC (.int 1))))) (.nm 4) (mAug 3 dMul (mBin dMax (mC (.int 0)) (mBin dSub (mVar 1) (mVar 4))))) (mThen (mFor (mSeq (mBin dIx (mVar 0) (mC (.int 0)))) (.nm 5) (mAug 3 dMul (mCall F_many_tuples [(mVar 1), (mCall F_many_keys [(mVar 5), (mVar 1)])]))) (mRet (mVar 3))))))
def F_how_many_worlds : Fn := runDef 6 m_how_many_worlds
theorem d_how_many_worlds {w : World} {K : PySem.W.Frag} {mg : Str → Option Value} {base : Heap} (M : Md K mg) : FnG prg w K mg base (L2.CX prg w) 4 M.f_how_many_worlds M.fd_how_many_worlds ["program", "many", "anys"] (SpM K mg 3 F_how_many_worlds) :=
  fnM (m := m_how_many_worlds) M.U_how_many_worlds sc_how_many_worlds (fun cdv A outer s H E hgd hr => have Sc := sc_how_many_worlds; (ess_cons (es_expr (ev_call (k := 3) ((d_check_numbers M).mono (by decide)) hgd (hr.mono (by decide)) (takes_of rfl rfl rfl rfl) rfl M.g_check_numbers M.k_check_numbers M.b_check_numbers (ea_cons (ev_var (pv 1)) (ea_cons (ev_var (pv 2)) ea_nil)))) (ess_cons (es_set Sc.nd rfl (Or.inl rfl) (ev_call (k := 3) ((d_many_tuples M).mono (by decide)) hgd (hr.mono (by decide)) (takes_of rfl rfl rfl rfl) rfl M.g_many_tuples M.k_many_tuples M.b_many_tuples (ea_cons (ev_var (pv 1)) (ea_cons (ev_bin op_addD op2_add (ev_b1 call_len o1_len rfl M.n_len boot_len (ev_ix ix_seq op2_ix (ev_var (pv 0)) ev_int fun _ _ => rfl)) (ev_var (pv 2))) ea_nil)))) (ess_cons (es_for (passes_of rfl) rfl (ei_rng1 rfl M.n_range (ev_b1 call_len o1_len rfl M.n_len boot_len (ev_ix ix_seq op2_ix (ev_var (pv 0)) ev_int fun _ _ => rfl))) (eg_name Sc.nd rfl (Or.inl rfl)) (ess_one (es_aug Sc.nd rfl (Or.inl rfl) iop_mul op2_mul (ev_b2 (call_max2 rfl) o2_max rfl M.n_max (by decide +kernel) ev_int (ev_bin op_sub op2_sub (ev_var (pv 1)) (ev_var (pv 4))))))) (ess_cons (es_for (passes_of rfl) rfl (ei_seq (ev_ix ix_seq op2_ix (ev_var (pv 0)) ev_int fun _ _ => rfl)) (eg_name Sc.nd rfl (Or.inl rfl)) (ess_one (es_aug Sc.nd rfl (Or.inl rfl) iop_mul op2_mul (ev_call (k := 3) ((d_many_tuples M).mono (by decide)) hgd (hr.mono (by decide)) (takes_of rfl rfl rfl rfl) rfl M.g_many_tuples M.k_many_tuples M.b_many_tuples (ea_cons (ev_var (pv 1)) (ea_cons (ev_call (k := 3) ((d_many_keys M).mono (by decide)) hgd (hr.mono (by decide)) (takes_of rfl rfl rfl rfl) rfl M.g_many_keys M.k_many_keys M.b_many_keys (ea_cons (ev_var (pv 5)) (ea_cons (ev_var (pv 1)) ea_nil))) ea_nil)))))) (ess_one (es_ret (ev_var (pv 3))))))))) fun β as r _ h => h
def N_letters_of : List Str := ["many", "size", "found", "_item", "one", "worth"]
theorem sc_letters_of : FnScope N_letters_of ["many", "size"] (defScope s_letters_of) := ⟨rfl, rfl, rfl, by decide +kernel, rfl, by decide +kernel, by decide +kernel⟩
def m_letters_of : M Fl :=
  (mThen (mSet 2 (mLst [(mTup [])])) (mThen (mFor (mRng1 (mVar 1)) (.nm 3) (mSet 2 (mComp2 [4, 5] [5] (mSeq (mVar 2)) (.nm 4) mYes (mRng1 (mVar 0)) (.nm 5) (mIs (mBin cNotIn (mVar 5) (mVar 4))) (mBin dAdd (mVar 4) (mTup [(mVar 5)]))))) (mRet (mVar 2))))
def F_letters_of : Fn := runDef 6 m_letters_of
theorem d_letters_of {w : World} {K : PySem.W.Frag} {mg : Str → Option Value} {base : Heap} (M : Md K mg) : FnG prg w K mg base (L2.CX prg w) 1 M.f_letters_of M.fd_letters_of ["many", "size"] (SpM K mg 2 F_letters_of) :=
  fnM (m := m_letters_of) M.U_letters_of sc_letters_of (fun cdv A outer s H E hgd hr => have Sc := sc_letters_of; (ess_cons (es_set Sc.nd rfl (Or.inl rfl) (ev_lst (ea_cons (ev_tup ea_nil) ea_nil))) (ess_cons (es_for (passes_of rfl) rfl (ei_rng1 rfl M.n_range (ev_var (pv 1))) (eg_name Sc.nd rfl (Or.inl rfl)) (ess_one (es_setLc2 (own := [("one", 4), ("worth", 5)]) (vs1 := [5]) rfl Sc.nd rfl rfl (sw_true rfl rfl rfl (by decide +kernel)) (ei_seq (ev_var (pv 2))) (show BlkOk N_letters_of (defScope s_letters_of) _ _ from ⟨rfl, by decide +kernel, by decide +kernel, by decide +kernel, by decide +kernel⟩) (fun _ _ _ _ _ => (eg_name Sc.nd rfl (Or.inl rfl))) (fun _ _ _ _ _ => pts_none) (fun _ _ _ _ _ => (ei_rng1 rfl M.n_range (ev_var (pv 0)))) (fun _ _ _ _ _ => (eg_name Sc.nd rfl (Or.inl rfl))) (fun _ _ _ _ _ => (pts_m (et_cmp (op_notInD (Room.units hr)) op2_D (ev_var (pv 5)) (ev_var (pv 4)) rfl))) (fun _ _ _ _ _ => (ev_bin op_addD op2_add (ev_var (pv 4)) (ev_tup (ea_cons (ev_var (pv 5)) ea_nil))))))) (ess_one (es_ret (ev_var (pv 2))))))) fun β as r _ h => h
def N_tuples_of : List Str := ["many", "size", "found", "_item", "one", "worth"]
theorem sc_tuples_of : FnScope N_tuples_of ["many", "size"] (defScope s_tuples_of) := ⟨rfl, rfl, rfl, by decide +kernel, rfl, by decide +kernel, by decide +kernel⟩
def m_tuples_of : M Fl :=
  (mThen (mSet 2 (mLst [(mTup [])])) (mThen (mFor (mRng1 (mVar 1)) (.nm 3) (mSet 2 (mComp2 [4, 5] [5] (mSeq (mVar 2)) (.nm 4) mYes (mRng1 (mVar 0)) (.nm 5) mYes (mBin dAdd (mVar 4) (mTup [(mVar 5)]))))) (mRet (mVar 2))))
def F_tuples_of : Fn := runDef 6 m_tuples_of
theorem d_tuples_of {w : World} {K : PySem.W.Frag} {mg : Str → Option Value} {base : Heap} (M : Md K mg) : FnG prg w K mg base (L2.CX prg w) 1 M.f_tuples_of M.fd_tuples_of ["many", "size"] (SpM K mg 2 F_tuples_of) :=
  fnM (m := m_tuples_of) M.U_tuples_of sc_tuples_of (fun cdv A outer s H E hgd hr => have Sc := sc_tuples_of; (ess_cons (es_set Sc.nd rfl (Or.inl rfl) (ev_lst (ea_cons (ev_tup ea_nil) ea_nil))) (ess_cons (es_for (passes_of rfl) rfl (ei_rng1 rfl M.n_range (ev_var (pv 1))) (eg_name Sc.nd rfl (Or.inl rfl)) (ess_one (es_setLc2 (own := [("one", 4), ("worth", 5)]) (vs1 := [5]) rfl Sc.nd rfl rfl (sw_true rfl rfl rfl (by decide +kernel)) (ei_seq (ev_var (pv 2))) (show BlkOk N_tuples_of (defScope s_tuples_of) _ _ from ⟨rfl, by decide +kernel, by decide +kernel, by decide +kernel, by decide +kernel⟩) (fun _ _ _ _ _ => (eg_name Sc.nd rfl (Or.inl rfl))) (fun _ _ _ _ _ => pts_none) (fun _ _ _ _ _ => (ei_rng1 rfl M.n_range (ev_var (pv 0)))) (fun _ _ _ _ _ => (eg_name Sc.nd rfl (Or.inl rfl))) (fun _ _ _ _ _ => pts_none) (fun _ _ _ _ _ => (ev_bin op_addD op2_add (ev_var (pv 4)) (ev_tup (ea_cons (ev_var (pv 5)) ea_nil))))))) (ess_one (es_ret (ev_var (pv 2))))))) fun β as r _ h => h
def N_keys_of : List Str := ["function", "many", "found", "key"]
theorem sc_keys_of : FnScope N_keys_of ["function", "many"] (defScope s_keys_of) := ⟨rfl, rfl, rfl, by decide +kernel, rfl, by decide +kernel, by decide +kernel⟩
def m_keys_of : M Fl :=
  (mThen (mSet 2 (mCall F_tuples_of [(mVar 1), (mBin dIx (mVar 0) (mC (.int 1)))])) (mRet (mIf (mIs (mBin cEq (mBin dIx (mVar 0) (mC (.int 2))) (mC (.str "either")))) (mComp [3] (mSeq (mVar 2)) (.nm 3) (mIs (mBin cLe (mBin dIx (mVar 3) (mC (.int 0))) (mBin dIx (mVar 3) (mC (.int 1))))) (mVar 3)) (mVar 2))))
def F_keys_of : Fn := runDef 4 m_keys_of
theorem d_keys_of {w : World} {K : PySem.W.Frag} {mg : Str → Option Value} {base : Heap} (M : Md K mg) : FnG prg w K mg base (L2.CX prg w) 2 M.f_keys_of M.fd_keys_of ["function", "many"] (SpM K mg 2 F_keys_of) :=
  fnM (m := m_keys_of) M.U_keys_of sc_keys_of (fun cdv A outer s H E hgd hr => have Sc := sc_keys_of; (ess_cons (es_set Sc.nd rfl (Or.inl rfl) (ev_call (k := 1) ((d_tuples_of M).mono (by decide)) hgd (hr.mono (by decide)) (takes_of rfl rfl rfl rfl) rfl M.g_tuples_of M.k_tuples_of M.b_tuples_of (ea_cons (ev_var (pv 1)) (ea_cons (ev_ix ix_seq op2_ix (ev_var (pv 0)) ev_int fun _ _ => rfl) ea_nil)))) (ess_one (es_ret (ev_if (et_cmp (op_eqD (Room.units hr)) op2_D (ev_ix ix_seq op2_ix (ev_var (pv 0)) ev_int fun _ _ => rfl) ev_str (nomark _)) (ev_lc (own := [("key", 3)]) rfl Sc.nd (ei_seq (ev_var (pv 2))) (show BlkOk N_keys_of (defScope s_keys_of) _ _ from ⟨rfl, by decide +kernel, by decide +kernel, by decide +kernel, by decide +kernel⟩) (fun _ _ _ _ _ => (eg_name Sc.nd rfl (Or.inl rfl))) (fun _ _ _ _ _ => (pts_m (et_cmp (op_leD (Room.units hr)) op2_D (ev_ix ix_seq op2_ix (ev_var (pv 3)) ev_int fun _ _ => rfl) (ev_ix ix_seq op2_ix (ev_var (pv 3)) ev_int fun _ _ => rfl) (nomark _)))) (fun _ _ _ _ _ => (ev_var (pv 3)))) (ev_var (pv 2))))))) fun β as r _ h => h
def N_tables_of : List Str := ["function", "many", "keys", "found", "worths", "key", "worth"]
theorem sc_tables_of : FnScope N_tables_of ["function", "many"] (defScope s_tables_of) := ⟨rfl, rfl, rfl, by decide +kernel, rfl, by decide +kernel, by decide +kernel⟩
def m_tables_of : M Fl :=
  (mThen (mPar 2 3 (mCall F_keys_of [(mVar 0), (mVar 1)]) (mLst [])) (mThen (mFor (mSeq (mCall F_tuples_of [(mVar 1), (mUn dLen (mVar 2))])) (.nm 4) (mExpr (mAppend 3 (mTup [(mUn dTuple (mComp [5, 6] (mZip (mVar 2) (mVar 4)) (.tup [(.nm 5), (.nm 6)]) (mIs (mBin cNe (mVar 6) (mC (.int 0)))) (mTup [(mVar 5), (mVar 6)]))), (mC (.int 0))])))) (mRet (mVar 3))))
def F_tables_of : Fn := runDef 7 m_tables_of
theorem d_tables_of {w : World} {K : PySem.W.Frag} {mg : Str → Option Value} {base : Heap} (M : Md K mg) : FnG prg w K mg base (L2.CX prg w) 3 M.f_tables_of M.fd_tables_of ["function", "many"] (SpM K mg 2 F_tables_of) :=
  fnM (m := m_tables_of) M.U_tables_of sc_tables_of (fun cdv A outer s H E hgd hr => have Sc := sc_tables_of; (ess_cons (es_par rfl Sc.nd rfl rfl (by decide) rfl rfl (ev_call (k := 2) ((d_keys_of M).mono (by decide)) hgd (hr.mono (by decide)) (takes_of rfl rfl rfl rfl) rfl M.g_keys_of M.k_keys_of M.b_keys_of (ea_cons (ev_var (pv 0)) (ea_cons (ev_var (pv 1)) ea_nil))) (ev_lst ea_nil) rfl) (ess_cons (es_for (passes_of rfl) rfl (ei_seq (ev_call (k := 2) ((d_tuples_of M).mono (by decide)) hgd (hr.mono (by decide)) (takes_of rfl rfl rfl rfl) rfl M.g_tuples_of M.k_tuples_of M.b_tuples_of (ea_cons (ev_var (pv 1)) (ea_cons (ev_b1 call_len o1_len rfl M.n_len boot_len (ev_var (pv 2))) ea_nil)))) (eg_name Sc.nd rfl (Or.inl rfl)) (ess_one (es_expr (ev_append (pe_bm PySem.F.plainAttrs_list PySem.F.slot_list_append PySem.F.type_list_append mt_append (pv 3) (pa_cons (ev_tup (ea_cons (ev_t1 call_tuple_of o1_tuple rfl M.n_tuple (by decide +kernel) (ev_lc (own := [("key", 5), ("worth", 6)]) rfl Sc.nd (ei_zip rfl M.n_zip (ev_var (pv 2)) (ev_var (pv 4))) (show BlkOk N_tables_of (defScope s_tables_of) _ _ from ⟨rfl, by decide +kernel, by decide +kernel, by decide +kernel, by decide +kernel⟩) (fun _ _ _ _ _ => (eg_tup rfl (egs_cons (eg_name Sc.nd rfl (Or.inl rfl)) (egs_cons (eg_name Sc.nd rfl (Or.inl rfl)) egs_nil)))) (fun _ _ _ _ _ => (pts_m (et_cmp (op_neD (Room.units hr)) op2_D (ev_var (pv 6)) ev_int (nomark _)))) (fun _ _ _ _ _ => (ev_tup (ea_cons (ev_var (pv 5)) (ea_cons (ev_var (pv 6)) ea_nil)))))) (ea_cons ev_int ea_nil))) pa_nil)))))) (ess_one (es_ret (ev_var (pv 3))))))) fun β as r _ h => h
def N_functions_of : List Str := ["program", "many", "found", "function", "tables", "one", "table"]
theorem sc_functions_of : FnScope N_functions_of ["program", "many"] (defScope s_functions_of) := ⟨rfl, rfl, rfl, by decide +kernel, rfl, by decide +kernel, by decide +kernel⟩
def m_functions_of : M Fl :=
  (mThen (mSet 2 (mLst [(mTup [])])) (mThen (mFor (mSeq (mBin dIx (mVar 0) (mC (.int 0)))) (.nm 3) (mThen (mSet 4 (mCall F_tables_of [(mVar 3), (mVar 1)])) (mSet 2 (mComp2 [5, 6] [6] (mSeq (mVar 2)) (.nm 5) mYes (mSeq (mVar 4)) (.nm 6) mYes (mBin dAdd (mVar 5) (mTup [(mVar 6)])))))) (mRet (mVar 2))))
def F_functions_of : Fn := runDef 7 m_functions_of
theorem d_functions_of {w : World} {K : PySem.W.Frag} {mg : Str → Option Value} {base : Heap} (M : Md K mg) : FnG prg w K mg base (L2.CX prg w) 4 M.f_functions_of M.fd_functions_of ["program", "many"] (SpM K mg 2 F_functions_of) :=
  fnM (m := m_functions_of) M.U_functions_of sc_functions_of (fun cdv A outer s H E hgd hr => have Sc := sc_functions_of; (ess_cons (es_set Sc.nd rfl (Or.inl rfl) (ev_lst (ea_cons (ev_tup ea_nil) ea_nil))) (ess_cons (es_for (passes_of rfl) rfl (ei_seq (ev_ix ix_seq op2_ix (ev_var (pv 0)) ev_int fun _ _ => rfl)) (eg_name Sc.nd rfl (Or.inl rfl)) (ess_cons (es_set Sc.nd rfl (Or.inr rfl) (ev_call (k := 3) ((d_tables_of M).mono (by decide)) hgd (hr.mono (by decide)) (takes_of rfl rfl rfl rfl) rfl M.g_tables_of M.k_tables_of M.b_tables_of (ea_cons (ev_var (pv 3)) (ea_cons (ev_var (pv 1)) ea_nil)))) (ess_one (es_setLc2 (own := [("one", 5), ("table", 6)]) (vs1 := [6]) rfl Sc.nd rfl rfl (sw_true rfl rfl rfl (by decide +kernel)) (ei_seq (ev_var (pv 2))) (show BlkOk N_functions_of (defScope s_functions_of) _ _ from ⟨rfl, by decide +kernel, by decide +kernel, by decide +kernel, by decide +kernel⟩) (fun _ _ _ _ _ => (eg_name Sc.nd rfl (Or.inl rfl))) (fun _ _ _ _ _ => pts_none) (fun _ _ _ _ _ => (ei_seq (ev_var (pv 4)))) (fun _ _ _ _ _ => (eg_name Sc.nd rfl (Or.inl rfl))) (fun _ _ _ _ _ => pts_none) (fun _ _ _ _ _ => (ev_bin op_addD op2_add (ev_var (pv 5)) (ev_tup (ea_cons (ev_var (pv 6)) ea_nil)))))))) (ess_one (es_ret (ev_var (pv 2))))))) fun β as r _ h => h
def N_small_worlds : List Str := ["program", "many", "anys", "found", "functions", "letters", "inputs", "told", "one"]
theorem sc_small_worlds : FnScope N_small_worlds ["program", "many", "anys"] (defScope s_small_worlds) := ⟨rfl, rfl, rfl, by decide +kernel, rfl, by decide +kernel, by decide +kernel⟩
def m_small_worlds : M Fl :=
  (mThen (mExpr (mCall F_check_numbers [(mVar 1), (mVar 2)])) (mThen (mIfS (mIs (mBin cGt (mCall F_how_many_worlds [(mVar 0), (mVar 1), (mVar 2)]) (mC (.int 5000)))) (mRaise "TooLarge" ["what", "limit"] [(mC (.str "worlds")), (mC (.int 5000))]) mNx) (mThen (mIfS (mIs (mBin cLt (mVar 1) (mUn dLen (mBin dIx (mVar 0) (mC (.int 1)))))) (mRet (mTup [])) mNx) (mThen (mPar 3 4 (mLst []) (mCall F_functions_of [(mVar 0), (mVar 1)])) (mThen (mFor (mSeq (mCall F_letters_of [(mVar 1), (mUn dLen (mBin dIx (mVar 0) (mC (.int 1))))])) (.nm 5) (mFor (mSeq (mCall F_tuples_of [(mVar 1), (mUn dLen (mBin dIx (mVar 0) (mC (.int 3))))])) (.nm 6) (mFor (mSeq (mCall F_tuples_of [(mVar 1), (mVar 2)])) (.nm 7) (mExpr (mExtend 3 (mComp [8] (mSeq (mVar 4)) (.nm 8) mYes (mTup [(mVar 1), (mVar 5), (mVar 6), (mVar 7), (mVar 8)]))))))) (mRet (mUn dTuple (mVar 3))))))))
def F_small_worlds : Fn := runDef 9 m_small_worlds
theorem d_small_worlds {w : World} {K : PySem.W.Frag} {mg : Str → Option Value} {base : Heap} (M : Md K mg) : FnG prg w K mg base (L2.CX prg w) 5 M.f_small_worlds M.fd_small_worlds ["program", "many", "anys"] (SpM K mg 3 F_small_worlds) :=
  fnM (m := m_small_worlds) M.U_small_worlds sc_small_worlds (fun cdv A outer s H E hgd hr => have Sc := sc_small_worlds; (ess_cons (es_expr (ev_call (k := 4) ((d_check_numbers M).mono (by decide)) hgd (hr.mono (by decide)) (takes_of rfl rfl rfl rfl) rfl M.g_check_numbers M.k_check_numbers M.b_check_numbers (ea_cons (ev_var (pv 1)) (ea_cons (ev_var (pv 2)) ea_nil)))) (ess_cons (es_if (et_cmp (op_gtD (Room.units hr)) op2_D (ev_call (k := 4) ((d_how_many_worlds M).mono (by decide)) hgd (hr.mono (by decide)) (takes_of rfl rfl rfl rfl) rfl M.g_how_many_worlds M.k_how_many_worlds M.b_how_many_worlds (ea_cons (ev_var (pv 0)) (ea_cons (ev_var (pv 1)) (ea_cons (ev_var (pv 2)) ea_nil)))) (ev_gInt rfl M.i_MOST_WORLDS) (nomark _)) (ess_one (es_raise2 rfl (takes_of rfl rfl rfl rfl) M.g_TooLarge (fun _ h => by refine pm_TooLarge (k := 3) _ ?_ ?_ ?_ h; rfl; rfl; exact hr) (ea_cons ev_str (ea_cons (ev_gInt rfl M.i_MOST_WORLDS) ea_nil)))) ess_nil) (ess_cons (es_if (et_cmp (op_ltD (Room.units hr)) op2_D (ev_var (pv 1)) (ev_b1 call_len o1_len rfl M.n_len boot_len (ev_ix ix_seq op2_ix (ev_var (pv 0)) ev_int fun _ _ => rfl)) (nomark _)) (ess_one (es_ret (ev_tup ea_nil))) ess_nil) (ess_cons (es_par rfl Sc.nd rfl rfl (by decide) rfl rfl (ev_lst ea_nil) (ev_call (k := 4) ((d_functions_of M).mono (by decide)) hgd (hr.mono (by decide)) (takes_of rfl rfl rfl rfl) rfl M.g_functions_of M.k_functions_of M.b_functions_of (ea_cons (ev_var (pv 0)) (ea_cons (ev_var (pv 1)) ea_nil))) rfl) (ess_cons (es_for (passes_of rfl) rfl (ei_seq (ev_call (k := 4) ((d_letters_of M).mono (by decide)) hgd (hr.mono (by decide)) (takes_of rfl rfl rfl rfl) rfl M.g_letters_of M.k_letters_of M.b_letters_of (ea_cons (ev_var (pv 1)) (ea_cons (ev_b1 call_len o1_len rfl M.n_len boot_len (ev_ix ix_seq op2_ix (ev_var (pv 0)) ev_int fun _ _ => rfl)) ea_nil)))) (eg_name Sc.nd rfl (Or.inr rfl)) (ess_one (es_for (passes_of rfl) rfl (ei_seq (ev_call (k := 4) ((d_tuples_of M).mono (by decide)) hgd (hr.mono (by decide)) (takes_of rfl rfl rfl rfl) rfl M.g_tuples_of M.k_tuples_of M.b_tuples_of (ea_cons (ev_var (pv 1)) (ea_cons (ev_b1 call_len o1_len rfl M.n_len boot_len (ev_ix ix_seq op2_ix (ev_var (pv 0)) ev_int fun _ _ => rfl)) ea_nil)))) (eg_name Sc.nd rfl (Or.inr rfl)) (ess_one (es_for (passes_of rfl) rfl (ei_seq (ev_call (k := 4) ((d_tuples_of M).mono (by decide)) hgd (hr.mono (by decide)) (takes_of rfl rfl rfl rfl) rfl M.g_tuples_of M.k_tuples_of M.b_tuples_of (ea_cons (ev_var (pv 1)) (ea_cons (ev_var (pv 2)) ea_nil)))) (eg_name Sc.nd rfl (Or.inr rfl)) (ess_one (es_expr (ev_extend (pe_bm PySem.F.plainAttrs_list PySem.F.slot_list_extend PySem.F.type_list_extend mt_extend (pv 3) (pa_cons (ev_lc (own := [("one", 8)]) rfl Sc.nd (ei_seq (ev_var (pv 4))) (show BlkOk N_small_worlds (defScope s_small_worlds) _ _ from ⟨rfl, by decide +kernel, by decide +kernel, by decide +kernel, by decide +kernel⟩) (fun _ _ _ _ _ => (eg_name Sc.nd rfl (Or.inl rfl))) (fun _ _ _ _ _ => pts_none) (fun _ _ _ _ _ => (ev_tup (ea_cons (ev_var (pv 1)) (ea_cons (ev_var (pv 5)) (ea_cons (ev_var (pv 6)) (ea_cons (ev_var (pv 7)) (ea_cons (ev_var (pv 8)) ea_nil)))))))) pa_nil)))))))))) (ess_one (es_ret (ev_t1 call_tuple_of o1_tuple rfl M.n_tuple (by decide +kernel) (ev_var (pv 3))))))))))) fun β as r _ h => h
def N_law : List Str := ["script", "bag", "lap", "functions", "letters", "inputs", "program", "many", "anys", "count", "due", "error", "comes", "lot"]
theorem sc_law : FnScope N_law ["script"] (defScope s_law) := ⟨rfl, rfl, rfl, by decide +kernel, rfl, by decide +kernel, by decide +kernel⟩
def m_bag : M Rv := (mCall F_law_bag [(mVar 0)])
def m_l0 : M Fl :=
  (mSet 3 (mSl (mTup [(mTup [(mC (.str "f")), (mC (.int 1)), (mC (.str "told"))]), (mTup [(mC (.str "g")), (mC (.int 2)), (mC (.str "either"))])]) none (some (mBin dAdd (mC (.int 1)) (mCall F_law_take [(mVar 1), (mC (.int 2))])))))
def m_l1 : M Fl :=
  (mAsg (.tup [(.nm 4), (.nm 5)]) (mTup [(mSl (mTup [(mC (.str "nil")), (mC (.str "yes"))]) none (some (mBin dAdd (mC (.int 1)) (mCall F_law_take [(mVar 1), (mC (.int 2))])))), (mSl (mTup [(mC (.str "a")), (mC (.str "b"))]) none (some (mCall F_law_take [(mVar 1), (mC (.int 3))])))]))
def m_l2 : M Fl :=
  (mSet 6 (mTup [(mVar 3), (mVar 4), (mTup [(mC (.str "a")), (mC (.str "b"))]), (mVar 5), (mTup []), (mTup [(mTup [(mC (.str "put")), (mC (.str "a")), (mC (.str "b"))])])]))
def m_l3 : M Fl :=
  (mAsg (.tup [(.nm 7), (.nm 8)]) (mTup [(mBin dAdd (mC (.int 1)) (mCall F_law_take [(mVar 1), (mC (.int 3))])), (mCall F_law_take [(mVar 1), (mC (.int 3))])]))
def m_l4 : M Fl :=
  (mSet 9 (mCall F_law_count [(mVar 6), (mVar 7), (mVar 8)]))
def m_l5 : M Fl :=
  (mIfS (mNotT (mIs (mCall F_alike [(mCall F_how_many_worlds [(mVar 6), (mVar 7), (mVar 8)]), (mVar 9)]))) (mRet (mC (.bool false))) mNx)
def m_l6 : M Fl :=
  (mIfS (mIs (mBin cGt (mVar 9) (mC (.int 5000)))) (mThen (mTry 11 "TooLarge" (mExpr (mCall F_small_worlds [(mVar 6), (mVar 7), (mVar 8)])) h_law) (mRet (mC (.bool false)))) mNx)
def m_l7 : M Fl :=
  (mIfS (mIs (mBin cGt (mVar 9) (mC (.int 700)))) (M.pure .ct) mNx)
def m_l8 : M Fl :=
  (mPar 10 3 (mLst []) (mCall F_law_functions [(mBin dIx (mVar 6) (mC (.int 0))), (mVar 7)]))
def m_l9 : M Fl :=
  (mFor (mSeq (mCall F_law_tuples [(mVar 7), (mUn dLen (mBin dIx (mVar 6) (mC (.int 1))))])) (.nm 4) (mIfS (mIs (mBin cEq (mUn dLenSet (mVar 4)) (mUn dLen (mVar 4)))) (mFor (mSeq (mCall F_law_tuples [(mVar 7), (mUn dLen (mBin dIx (mVar 6) (mC (.int 3))))])) (.nm 5) (mFor (mSeq (mCall F_law_tuples [(mVar 7), (mVar 8)])) (.nm 12) (mExpr (mExtend 10 (mComp [13] (mSeq (mVar 3)) (.nm 13) mYes (mTup [(mVar 7), (mVar 4), (mVar 5), (mVar 12), (mVar 13)])))))) mNx))
def m_l10 : M Fl :=
  (mIfS (mNotT (mIs (mCall F_alike [(mCall F_small_worlds [(mVar 6), (mVar 7), (mVar 8)]), (mUn dTuple (mVar 10))]))) (mRet (mC (.bool false))) mNx)
def m_lap : M Fl := (mThen m_l0 (mThen m_l1 (mThen m_l2 (mThen m_l3 (mThen m_l4 (mThen m_l5 (mThen m_l6 (mThen m_l7 (mThen m_l8 (mThen m_l9 m_l10))))))))))
def m_law : M Fl :=
  (mThen (mFor (mRng1 (mC (.int 4))) (.nm 2) m_lap) (mRet (mC (.bool true))))
end Pu
namespace Pu
open PySem PySem.Spec PyProof.Rows L2
theorem lk_cons {α : Type} (f g : Str) (y : α) (l : List (Str × α)) : ((f, y) :: l).lookup g = if g = f then some y else l.lookup g := by
  by_cases h : g = f
  · rw [if_pos h, h]; simp [List.lookup]
  · rw [if_neg h]
    have e : (g == f) = false := by simpa using h
    simp [List.lookup, e]
theorem lookup_rp {K : PySem.W.Frag} {Hf : Hp} {f : Str} : ∀ {fs : List (Str × D)} {fvs : List (Str × V)} {d : D}, fvs.map (·.1) = fs.map (·.1) → RpL K Hf (fs.map (·.2)) (fvs.map (·.2)) → fs.lookup f = some d → ∃ v, fvs.lookup f = some v ∧ Rp K Hf d v
  | [], _, _, _, _, e => by cases e
  | (n, d) :: fs, [], _, e, _, _ => by cases e
  | (n, d) :: fs, (m, v) :: fvs, d', e, r, l => by
    obtain ⟨w, t, e2, r1, r2⟩ := r.cons_inv
    have e' := List.cons.inj e
    have e2' := List.cons.inj e2
    have hn : m = n := e'.1
    have hv : v = w := e2'.1
    subst hn hv
    rw [lk_cons] at l ⊢
    by_cases h : f = m
    · rw [if_pos h] at l ⊢
      cases l
      exact ⟨v, rfl, r1⟩
    · rw [if_neg h] at l ⊢
      have e3 : t = fvs.map (·.2) := e2'.2.symm
      rw [e3] at r2
      exact lookup_rp e'.2 r2 l
abbrev tArgs (a : Addr) (cls : Value) (d : Option Addr) (C : Addr) : TA := tCons (tTup (tCons (tXf a cls d C "what" (tVar 11)) (tCons (tXf a cls d C "limit" (tVar 11)) tNil))) (tCons (tTup (tCons (tC (.str "worlds")) (tCons (tC (.int 5000)) tNil))) tNil)
abbrev tsL (K : PySem.W.Frag) (mg : Str → Option Value) (C : Addr) : Addr → Value → Option Addr → TS := fun a cls d => tSeq (tIfS (tNot (tB (tCallK (SpM K mg 2 F_alike) (tArgs a cls d C)))) (tRet (tC (.bl false))) tNext) tCont
theorem hts_law {K : PySem.W.Frag} {mg : Str → Option Value} {C : Addr} (a : Addr) (d : Option Addr) (D : Ends) (σ : L2.St) (H : Hp) (ba : Option Addr) (O Hf : Hp) (s : S) (xx : Exn) (R : Rep K ba O Hf H σ s) (hσ : σ[11]? = some (some (.ref a))) (_ : xx.cls = "TooLarge")
    (ex : ExOk K mg Hf H xx (.ref C) d) (F : Fits (h_law xx s) (fun fl s' => ∀ σ' H' Hf', Rep K ba O Hf' H' σ' s' → Same Hf Hf' → EndOk K ba O Hf' H' σ' s' D fl) (fun _ _ => False)) : tsL K mg C a (.ref C) d D σ H := by
  unfold h_law at F
  cases e1 : xx.fs.lookup ("what" : Str) with
  | none => rw [e1] at F; exact F.elim
  | some dw =>
    cases e2 : xx.fs.lookup ("limit" : Str) with
    | none => rw [e1, e2] at F; exact F.elim
    | some dl =>
      rw [e1, e2] at F
      obtain ⟨_, ex2⟩ := ex
      have ex3 : ∃ e fvs, d = some e ∧ H e = some (.xd fvs) ∧ fvs.map (·.1) = xx.fs.map (·.1) ∧ RpL K Hf (xx.fs.map (·.2)) (fvs.map (·.2)) := by
        cases q : xx.fs with
        | nil => rw [q] at e1; cases e1
        | cons p r => rw [q] at ex2; exact ex2
      obtain ⟨dd, fvs, rfl, hd, hn, hr⟩ := ex3
      obtain ⟨vw, l1, rw1⟩ := lookup_rp hn hr e1
      obtain ⟨vl, l2, rl1⟩ := lookup_rp hn hr e2
      cases ef : F_alike s.β [.dat (.tuple [dw, dl]), .dat (.tuple [.str "worlds", .int 5000])] with
      | none => simp only [ef] at F; exact F.elim
      | some q =>
        obtain ⟨β', r⟩ := q
        simp only [ef] at F
        match r, ef, F with
        | .ok (.dat (.bool true)), ef, F =>
          refine ⟨_, hσ, rfl, rfl, dd, fvs, vw, rfl, hd, l1, _, hσ, rfl, rfl, dd, fvs, vl, rfl, hd, l2, by show 2 ≤ sizeLine; decide, fun p hp => ?_⟩
          have R1 := R.lay (o := .tup [vw, vl]) hp
          refine ⟨by show 2 ≤ sizeLine; decide, fun p2 hp2 => ?_⟩
          have R2 := R1.lay (o := .tup [.str "worlds", .int 5000]) hp2
          have f1 : Hf p = none := (R.reg.free hp).1
          have f2 : upd Hf p (.tup [vw, vl]) p2 = none := (R1.reg.free hp2).1
          have s1 : Same Hf (upd Hf p (.tup [vw, vl])) := Same.updN f1
          have s2 : Same (upd Hf p (.tup [vw, vl])) (upd (upd Hf p (.tup [vw, vl])) p2 (.tup [.str "worlds", .int 5000])) := Same.updN f2
          have a1 : Rp K (upd (upd Hf p (.tup [vw, vl])) p2 (.tup [.str "worlds", .int 5000])) (.tuple [dw, dl]) (.ref p) := by
            refine Rp.mono s2 _ _ ?_
            simp only [Rp]
            exact ⟨p, _, rfl, SqT.of upd_same, RpL.cons (Rp.mono s1 _ _ rw1) (RpL.cons (Rp.mono s1 _ _ rl1) RpL.nil)⟩
          have a2 : Rp K (upd (upd Hf p (.tup [vw, vl])) p2 (.tup [.str "worlds", .int 5000])) (.tuple [.str "worlds", .int 5000]) (.ref p2) := by
            simp only [Rp]
            exact ⟨p2, _, rfl, SqT.of upd_same, RpL.cons (by simp only [Rp]) (RpL.cons (by simp only [Rp]) RpL.nil)⟩
          refine ⟨ba, callO ba _ _, _, s.β, [.dat (.tuple [dw, dl]), .dat (.tuple [.str "worlds", .int 5000])], .ok (.dat (.bool true)), β', rfl, callO_reg R2.reg, ⟨_, _, rfl, a1, _, _, rfl, a2, rfl⟩, ef, ?_⟩
          intro v H' Hf' G e' ok'
          refine ⟨true, rp_bl (K := K) (Hf := Hf') ok', ?_⟩
          show D.ct σ H'
          exact F σ H' Hf' (R2.back G e') (Same.trans s1 (Same.trans s2 e'))
        | .ok (.dat (.bool false)), _, F => exact F.elim
        | .ok (.dat .none), _, F => exact F.elim
        | .ok (.dat (.int _)), _, F => exact F.elim
        | .ok (.dat (.str _)), _, F => exact F.elim
        | .ok (.dat (.list _)), _, F => exact F.elim
        | .ok (.dat (.tuple _)), _, F => exact F.elim
        | .ok (.dat (.dict _)), _, F => exact F.elim
        | .ok (.fresh _), _, F => exact F.elim
        | .error _, _, F => exact F.elim
theorem d_law {w : World} {K : PySem.W.Frag} {mg : Str → Option Value} {base : Heap} (M : Md K mg)
    (hf : ∀ ns : List Int, ns.length ≤ 63 → ∃ s b0 b1 b2 cs s2, m_bag ⟨begin N_law.length [.dat (.list (ns.map .int))], ⟨0, 0, 0, []⟩⟩ = some (s, .ok (.fresh [.int b0, .int b1, .int b2, .list (cs.map .int)])) ∧
      m_law ⟨s.ρ.set 1 .bag, ⟨b0, b1, b2, cs⟩⟩ = some (s2, .ok (.rt (.dat (.bool true))))) : FnG prg w K mg base (L2.CX prg w) 6 M.f_law M.fd_law ["script"] (spLaw 63 K) :=
  fnLaw (i := 1) (mc := m_bag) (mr := m_law) M.U_law sc_law rfl (fun cdv A outer s H E hgd hr => have Sc := sc_law; ⟨_, ps_set Sc.nd rfl (Or.inl rfl) (ev_call (k := 5) ((d_law_bag M).mono (by decide)) hgd (hr.mono (by decide)) (takes_of rfl rfl rfl rfl) rfl M.g_law_bag M.k_law_bag M.b_law_bag (ea_cons (ev_var (pv 0)) ea_nil)), (ess_cons (es_for (passes_of rfl) rfl (ei_rng1 rfl M.n_range ev_int) (eg_name Sc.nd rfl (Or.inl rfl)) (ess_cons (es_set Sc.nd rfl (Or.inl rfl) (ev_slice (ev_tup (ea_cons (ev_tup (ea_cons ev_str (ea_cons ev_int (ea_cons ev_str ea_nil)))) (ea_cons (ev_tup (ea_cons ev_str (ea_cons ev_int (ea_cons ev_str ea_nil)))) ea_nil))) eo_none (eo_some (ev_bin op_addD op2_add ev_int (ev_call (k := 5) ((d_law_take M).mono (by decide)) hgd (hr.mono (by decide)) (takes_of rfl rfl rfl rfl) rfl M.g_law_take M.k_law_take M.b_law_take (ea_cons (ev_var (pv 1)) (ea_cons ev_int ea_nil))))))) (ess_cons (es_asg (ev_tup (ea_cons (ev_slice (ev_tup (ea_cons ev_str (ea_cons ev_str ea_nil))) eo_none (eo_some (ev_bin op_addD op2_add ev_int (ev_call (k := 5) ((d_law_take M).mono (by decide)) hgd (hr.mono (by decide)) (takes_of rfl rfl rfl rfl) rfl M.g_law_take M.k_law_take M.b_law_take (ea_cons (ev_var (pv 1)) (ea_cons ev_int ea_nil)))))) (ea_cons (ev_slice (ev_tup (ea_cons ev_str (ea_cons ev_str ea_nil))) eo_none (eo_some (ev_call (k := 5) ((d_law_take M).mono (by decide)) hgd (hr.mono (by decide)) (takes_of rfl rfl rfl rfl) rfl M.g_law_take M.k_law_take M.b_law_take (ea_cons (ev_var (pv 1)) (ea_cons ev_int ea_nil))))) ea_nil))) (eg_tup rfl (egs_cons (eg_name Sc.nd rfl (Or.inr rfl)) (egs_cons (eg_name Sc.nd rfl (Or.inr rfl)) egs_nil)))) (ess_cons (es_set Sc.nd rfl (Or.inl rfl) (ev_tup (ea_cons (ev_var (pv 3)) (ea_cons (ev_var (pv 4)) (ea_cons (ev_tup (ea_cons ev_str (ea_cons ev_str ea_nil))) (ea_cons (ev_var (pv 5)) (ea_cons (ev_tup ea_nil) (ea_cons (ev_tup (ea_cons (ev_tup (ea_cons ev_str (ea_cons ev_str (ea_cons ev_str ea_nil)))) ea_nil)) ea_nil)))))))) (ess_cons (es_asg (ev_tup (ea_cons (ev_bin op_addD op2_add ev_int (ev_call (k := 5) ((d_law_take M).mono (by decide)) hgd (hr.mono (by decide)) (takes_of rfl rfl rfl rfl) rfl M.g_law_take M.k_law_take M.b_law_take (ea_cons (ev_var (pv 1)) (ea_cons ev_int ea_nil)))) (ea_cons (ev_call (k := 5) ((d_law_take M).mono (by decide)) hgd (hr.mono (by decide)) (takes_of rfl rfl rfl rfl) rfl M.g_law_take M.k_law_take M.b_law_take (ea_cons (ev_var (pv 1)) (ea_cons ev_int ea_nil))) ea_nil))) (eg_tup rfl (egs_cons (eg_name Sc.nd rfl (Or.inr rfl)) (egs_cons (eg_name Sc.nd rfl (Or.inl rfl)) egs_nil)))) (ess_cons (es_set Sc.nd rfl (Or.inl rfl) (ev_call (k := 5) ((d_law_count M).mono (by decide)) hgd (hr.mono (by decide)) (takes_of rfl rfl rfl rfl) rfl M.g_law_count M.k_law_count M.b_law_count (ea_cons (ev_var (pv 6)) (ea_cons (ev_var (pv 7)) (ea_cons (ev_var (pv 8)) ea_nil))))) (ess_cons (es_if (et_not (et_val (ev_call (k := 5) ((d_law_alike M).mono (by decide)) hgd (hr.mono (by decide)) (takes_of rfl rfl rfl rfl) rfl M.g_law_alike M.k_law_alike M.b_law_alike (ea_cons (ev_call (k := 5) ((d_how_many_worlds M).mono (by decide)) hgd (hr.mono (by decide)) (takes_of rfl rfl rfl rfl) rfl M.g_how_many_worlds M.k_how_many_worlds M.b_how_many_worlds (ea_cons (ev_var (pv 6)) (ea_cons (ev_var (pv 7)) (ea_cons (ev_var (pv 8)) ea_nil)))) (ea_cons (ev_var (pv 9)) ea_nil))))) (ess_one (es_ret ev_bl)) ess_nil) (ess_cons (es_if (et_cmp (op_gtD (Room.units hr)) op2_D (ev_var (pv 9)) ev_int (nomark _)) (ess_cons (es_tryAs (i := 11) (ts := tsL K mg M.c_TooLarge) rfl rfl Sc.nd rfl rfl rfl (by decide) M.g_TooLarge M.e_TooLarge (takes_of rfl rfl rfl rfl) (fun W pn xe tk => (ess_one (es_expr (ev_call (k := 5) ((d_small_worlds M).mono (by decide)) hgd (hr.mono (by decide)) tk rfl M.g_small_worlds M.k_small_worlds M.b_small_worlds (ea_cons (ev_var (pv 6)) (ea_cons (ev_var (pv 7)) (ea_cons (ev_var (pv 8)) ea_nil))))))) (fun a oe cls d pn hz hf => (pss_cons (ps_if (pt_not (pt_val (pe_callK (k := 1) (p := _) (dh_law_alike M) hgd (L2H.RoomH.mono (k := 5) ⟨hr.dp, hr.un⟩ (by decide)) ⟨_, List.mem_cons_self⟩ rfl M.g_law_alike M.k_law_alike M.b_law_alike (pa_cons (pe_tup (pa_cons (pe_xf M.y_TooLarge M.z_TooLarge_what hz hf (pv 11)) (pa_cons (pe_xf M.y_TooLarge M.z_TooLarge_limit hz hf (pv 11)) pa_nil))) (pa_cons (pe_tup (pa_cons pe_str (pa_cons pe_int pa_nil))) pa_nil))))) (pss_one (ps_ret pe_bl)) pss_nil) (pss_one ps_continue))) hts_law) (ess_one (es_ret ev_bl))) ess_nil) (ess_cons (es_if (et_cmp (op_gtD (Room.units hr)) op2_D (ev_var (pv 9)) ev_int (nomark _)) (ess_one es_continue) ess_nil) (ess_cons (es_par rfl Sc.nd rfl rfl (by decide) rfl rfl (ev_lst ea_nil) (ev_call (k := 5) ((d_law_functions M).mono (by decide)) hgd (hr.mono (by decide)) (takes_of rfl rfl rfl rfl) rfl M.g_law_functions M.k_law_functions M.b_law_functions (ea_cons (ev_ix ix_seq op2_ix (ev_var (pv 6)) ev_int fun _ _ => rfl) (ea_cons (ev_var (pv 7)) ea_nil))) rfl) (ess_cons (es_for (passes_of rfl) rfl (ei_seq (ev_call (k := 5) ((d_law_tuples M).mono (by decide)) hgd (hr.mono (by decide)) (takes_of rfl rfl rfl rfl) rfl M.g_law_tuples M.k_law_tuples M.b_law_tuples (ea_cons (ev_var (pv 7)) (ea_cons (ev_b1 call_len o1_len rfl M.n_len boot_len (ev_ix ix_seq op2_ix (ev_var (pv 6)) ev_int fun _ _ => rfl)) ea_nil)))) (eg_name Sc.nd rfl (Or.inr rfl)) (ess_one (es_if (et_cmp (op_eqD (Room.units hr)) op2_D (ev_lenSet rfl M.n_len rfl M.n_set (ev_var (pv 4)) rfl) (ev_b1 call_len o1_len rfl M.n_len boot_len (ev_var (pv 4))) (nomark _)) (ess_one (es_for (passes_of rfl) rfl (ei_seq (ev_call (k := 5) ((d_law_tuples M).mono (by decide)) hgd (hr.mono (by decide)) (takes_of rfl rfl rfl rfl) rfl M.g_law_tuples M.k_law_tuples M.b_law_tuples (ea_cons (ev_var (pv 7)) (ea_cons (ev_b1 call_len o1_len rfl M.n_len boot_len (ev_ix ix_seq op2_ix (ev_var (pv 6)) ev_int fun _ _ => rfl)) ea_nil)))) (eg_name Sc.nd rfl (Or.inr rfl)) (ess_one (es_for (passes_of rfl) rfl (ei_seq (ev_call (k := 5) ((d_law_tuples M).mono (by decide)) hgd (hr.mono (by decide)) (takes_of rfl rfl rfl rfl) rfl M.g_law_tuples M.k_law_tuples M.b_law_tuples (ea_cons (ev_var (pv 7)) (ea_cons (ev_var (pv 8)) ea_nil)))) (eg_name Sc.nd rfl (Or.inr rfl)) (ess_one (es_expr (ev_extend (pe_bm PySem.F.plainAttrs_list PySem.F.slot_list_extend PySem.F.type_list_extend mt_extend (pv 10) (pa_cons (ev_lc (own := [("lot", 13)]) rfl Sc.nd (ei_seq (ev_var (pv 3))) (show BlkOk N_law (defScope s_law) _ _ from ⟨rfl, by decide +kernel, by decide +kernel, by decide +kernel, by decide +kernel⟩) (fun _ _ _ _ _ => (eg_name Sc.nd rfl (Or.inl rfl))) (fun _ _ _ _ _ => pts_none) (fun _ _ _ _ _ => (ev_tup (ea_cons (ev_var (pv 7)) (ea_cons (ev_var (pv 4)) (ea_cons (ev_var (pv 5)) (ea_cons (ev_var (pv 12)) (ea_cons (ev_var (pv 13)) ea_nil)))))))) pa_nil))))))))) ess_nil))) (ess_one (es_if (et_not (et_val (ev_call (k := 5) ((d_law_alike M).mono (by decide)) hgd (hr.mono (by decide)) (takes_of rfl rfl rfl rfl) rfl M.g_law_alike M.k_law_alike M.b_law_alike (ea_cons (ev_call (k := 5) ((d_small_worlds M).mono (by decide)) hgd (hr.mono (by decide)) (takes_of rfl rfl rfl rfl) rfl M.g_small_worlds M.k_small_worlds M.b_small_worlds (ea_cons (ev_var (pv 6)) (ea_cons (ev_var (pv 7)) (ea_cons (ev_var (pv 8)) ea_nil)))) (ea_cons (ev_t1 call_tuple_of o1_tuple rfl M.n_tuple (by decide +kernel) (ev_var (pv 10))) ea_nil))))) (ess_one (es_ret ev_bl)) ess_nil))))))))))))) (ess_one (es_ret ev_bl)))⟩) hf
end Pu
namespace Pu
open PySem PySem.Spec PyProof.Rows L2
/-! small steps -/
theorem bind_ok {α β : Type} {m : M α} {f : α → M β} {s s' : S} {a : α} (h : m s = some (s', .ok a)) : M.bind m f s = f a s' := by unfold M.bind; rw [h]
theorem then_ok {m n : M Fl} {s s' : S} (h : m s = some (s', .ok .nx)) : mThen m n s = n s' := by unfold mThen M.bind; rw [h]
theorem ifs_ok {t : M Bool} {m n : M Fl} {s s' : S} {b : Bool} (h : t s = some (s', .ok b)) : mIfS t m n s = (if b then m else n) s' := by unfold mIfS M.bind; rw [h]
theorem set_ok {i : Nat} {m : M Rv} {s s' : S} {d : D} (h : m s = some (s', .ok (.dat d))) : mSet i m s = some ({ s' with ρ := s'.ρ.set i (.dat d) }, .ok .nx) := by unfold mSet M.bind; rw [h]; rfl
theorem bin_ok {f : D → D → Option Rs} {m1 m2 : M Rv} {s s1 s2 : S} {r1 r2 : Rv} {d1 d2 : D} {res : Rs} (h1 : m1 s = some (s1, .ok r1)) (h2 : m2 s1 = some (s2, .ok r2)) (p1 : peek (settle r1) s2 = some (s2, .ok d1)) (p2 : peek r2 s2 = some (s2, .ok d2)) (hf : f d1 d2 = some res) :
    mBin f m1 m2 s = some (s2, .ok res.rv) := by unfold mBin M.bind; simp only [h1, h2, p1, p2, hf, M.lift, M.pure, Option.map_some]
theorem binD {f : D → D → Option Rs} {m1 m2 : M Rv} {s s1 s2 : S} {d1 d2 d : D} (h1 : m1 s = some (s1, .ok (.dat d1))) (h2 : m2 s1 = some (s2, .ok (.dat d2))) (hf : f d1 d2 = some (.dat d)) : mBin f m1 m2 s = some (s2, .ok (.dat d)) := bin_ok h1 h2 rfl rfl hf
theorem unD {f : D → Option Rs} {m : M Rv} {s s1 : S} {d1 d : D} (h1 : m s = some (s1, .ok (.dat d1))) (hf : f d1 = some (.dat d)) : mUn f m s = some (s1, .ok (.dat d)) := by unfold mUn M.bind; simp only [h1, peek, hf, M.lift, M.pure, Option.map_some, Rs.rv]
theorem isD {m : M Rv} {s s1 : S} {b : Bool} (h : m s = some (s1, .ok (.dat (.bool b)))) : mIs m s = some (s1, .ok b) := by unfold mIs M.bind; rw [h]; rfl
theorem ret_ok {m : M Rv} {s s' : S} {r : Rv} (h : m s = some (s', .ok r)) : mRet m s = some (s', .ok (.rt r)) := by unfold mRet M.bind; rw [h]; rfl
theorem bagSet_ok {i : Nat} {k z : Int} {m : M Rv} {s s' : S} {β : Bag} (h : m s = some (s', .ok (.dat (.int z)))) (hb : isBag i s' = true) (hp : s'.β.put k z = some β) : mBagSet i k m s = some ({ s' with β := β }, .ok .nx) := by unfold mBagSet M.bind; simp only [h, hb, if_true, hp, Option.map_some]
theorem mul_r {i j : Int} (h : -(2 ^ 64) < j ∧ j < 2 ^ 64) : dMul (.int i) (.int j) = some (.dat (.int (i * j))) := by
  show (if mulOk i j = true then some (Rs.dat (.int (i * j))) else none) = _
  rw [if_pos (by unfold mulOk; rw [decide_eq_true h, Bool.or_true])]
theorem mul_l {i j : Int} (h : -(2 ^ 64) < i ∧ i < 2 ^ 64) : dMul (.int i) (.int j) = some (.dat (.int (i * j))) := by
  show (if mulOk i j = true then some (Rs.dat (.int (i * j))) else none) = _
  rw [if_pos (by unfold mulOk; rw [decide_eq_true h, Bool.true_or])]
theorem mod_ok {i j : Int} (h : 0 < j) : dMod (.int i) (.int j) = some (.dat (.int (i % j))) := if_pos h
theorem fdiv_ok {i j : Int} (h : 0 < j ∧ j.natAbs.log2 < 9000) : dFdivW (.int i) (.int j) = some (.dat (.int (i / j))) := if_pos h
theorem cGe_int {i j : Int} : cGe (.int i) (.int j) = some (.dat (.bool (decide (j ≤ i)))) := rfl
theorem then_rt {m n : M Fl} {s s' : S} {r : Rv} (h : m s = some (s', .ok (.rt r))) : mThen m n s = some (s', .ok (.rt r)) := by unfold mThen M.bind; rw [h]; rfl
/-! the draw -/
abbrev tk (n : Int) (x2 x3 x4 x5 x6 : Sl) (b0 b1 b2 : Int) (cs : List Int) : S := ⟨[.bag, .dat (.int n), x2, x3, x4, x5, x6], ⟨b0, b1, b2, cs⟩⟩
theorem cut_ints (cs : List Int) (b : Int) : ∃ ds, cutD (cs.map PyData.int) (some b) none = List.map PyData.int ds ∧ ds.length ≤ cs.length := by
  unfold cutD
  rw [List.length_map]
  refine ⟨(cs.drop (HT.sIx cs.length 0 (some b))).take (HT.sIx cs.length cs.length none - HT.sIx cs.length 0 (some b)), by rw [List.map_take, List.map_drop], ?_⟩
  rw [List.length_take]; rw [List.length_drop]
  omega
theorem cell_ok (n : Int) (x2 x3 x4 x5 x6 : Sl) (b0 b1 b2 : Int) (cs : List Int) (hc : cs.length ≤ 63) : ∃ c : Int, mBin dIx (mBin dAdd (mSl (mBagIx 0 3) (some (mBagIx 0 2)) none) (mLst [mC (.int 0)])) (mC (.int 0)) (tk n x2 x3 x4 x5 x6 b0 b1 b2 cs) = some (tk n x2 x3 x4 x5 x6 b0 b1 b2 cs, .ok (.dat (.int c))) := by
  obtain ⟨ds, e, hl⟩ := cut_ints cs b2
  have h1 : mSl (mBagIx 0 3) (some (mBagIx 0 2)) none (tk n x2 x3 x4 x5 x6 b0 b1 b2 cs) = some (tk n x2 x3 x4 x5 x6 b0 b1 b2 cs, .ok (.fresh (ds.map PyData.int))) := by
    show some (tk n x2 x3 x4 x5 x6 b0 b1 b2 cs, Except.ok (Rv.fresh (cutD (cs.map PyData.int) (some b2) none))) = _
    rw [e]
  have h2 : mLst [mC (.int 0)] (tk n x2 x3 x4 x5 x6 b0 b1 b2 cs) = some (tk n x2 x3 x4 x5 x6 b0 b1 b2 cs, .ok (.fresh [.int 0])) := rfl
  have h3 : dAdd (.list (ds.map PyData.int)) (.list [.int 0]) = some (.fresh (ds.map PyData.int ++ [.int 0])) := by
    show (if (ds.map PyData.int).length + 1 ≤ sizeLine then some (Rs.fresh (ds.map PyData.int ++ [.int 0])) else none) = _
    rw [if_pos (by rw [List.length_map, sizeLine_eq]; omega)]
  have h4 := bin_ok (f := dAdd) (d1 := .list (ds.map PyData.int)) (d2 := .list [.int 0]) h1 h2 rfl rfl h3
  cases ds with
  | nil => exact ⟨0, bin_ok (res := .dat (.int 0)) (f := dIx) (d1 := .list [.int 0]) (d2 := .int 0) h4 (show mC (.int 0) _ = some (_, .ok (.dat (.int 0))) from rfl) rfl rfl rfl⟩
  | cons c ds =>
    refine ⟨c, bin_ok (res := .dat (.int c)) (f := dIx) (d1 := .list ((c :: ds).map PyData.int ++ [.int 0])) (d2 := .int 0) h4 (show mC (.int 0) _ = some (_, .ok (.dat (.int 0))) from rfl) rfl rfl ?_⟩
    show ((ixD ((c :: ds).map PyData.int ++ [.int 0]) 0).map Rs.dat) = some (.dat (.int c))
    unfold ixD ixN
    rw [if_pos (by decide), if_pos (by simp; omega)]
    rfl
theorem take_a (n : Int) (x2 x3 x4 x5 x6 : Sl) (b1 b2 : Int) (cs : List Int) (hc : cs.length ≤ 63) : ∃ b0' b1' b2' y4 y5, mThen (mSet 4 (mBin dIx (mBin dAdd (mSl (mBagIx 0 3) (some (mBagIx 0 2)) none) (mLst [mC (.int 0)])) (mC (.int 0)))) (mThen (mBagAug 0 2 (mC (.int 1)))
      (mThen (mIfS (mIs (mBin cGe (mVar 4) (mBin dPow (mC (.int 10)) (mC (.int 18))))) (mBagSet 0 0 (mVar 4)) mNx) (mThen (mSet 5 (mBin dAdd (mBin dAdd (mBin dMul (mBagIx 0 1) (mC (.int 48271))) (mBin dMod (mUn dInt (mVar 4)) (mC (.int 2147483647)))) (mBin dMul (mC (.int 7919)) (mBagIx 0 2))))
        (mBagSet 0 1 (mBin dMod (mUn dInt (mVar 5)) (mC (.int 2147483647))))))) (tk n x2 x3 x4 x5 x6 0 b1 b2 cs) = some (tk n x2 x3 y4 y5 x6 b0' b1' b2' cs, .ok .nx) := by
  obtain ⟨c, hcell⟩ := cell_ok n x2 x3 x4 x5 x6 0 b1 b2 cs hc
  rw [then_ok (set_ok hcell)]
  rw [then_ok (show mBagAug 0 2 (mC (.int 1)) _ = some (tk n x2 x3 (.dat (.int c)) x5 x6 0 b1 (b2 + 1) cs, .ok .nx) from rfl)]
  have hp : mBin dPow (mC (.int 10)) (mC (.int 18)) (tk n x2 x3 (.dat (.int c)) x5 x6 0 b1 (b2 + 1) cs) = some (tk n x2 x3 (.dat (.int c)) x5 x6 0 b1 (b2 + 1) cs, .ok (.dat (.int (10 ^ 18)))) := by kernel_rfl
  have hge := isD (binD (f := cGe) (show mVar 4 (tk n x2 x3 (.dat (.int c)) x5 x6 0 b1 (b2 + 1) cs) = some (_, .ok (.dat (.int c))) from rfl) hp cGe_int)
  have hif : ∃ b0', mIfS (mIs (mBin cGe (mVar 4) (mBin dPow (mC (.int 10)) (mC (.int 18))))) (mBagSet 0 0 (mVar 4)) mNx (tk n x2 x3 (.dat (.int c)) x5 x6 0 b1 (b2 + 1) cs) = some (tk n x2 x3 (.dat (.int c)) x5 x6 b0' b1 (b2 + 1) cs, .ok .nx) := by
    rw [ifs_ok hge]
    by_cases q : (10 ^ 18 : Int) ≤ c
    · rw [decide_eq_true q]; exact ⟨c, rfl⟩
    · rw [decide_eq_false q]; exact ⟨0, rfl⟩
  obtain ⟨b0', hif⟩ := hif
  rw [then_ok hif]
  have e1 : mBin dMul (mBagIx 0 1) (mC (.int 48271)) (tk n x2 x3 (.dat (.int c)) x5 x6 b0' b1 (b2 + 1) cs) = some (tk n x2 x3 (.dat (.int c)) x5 x6 b0' b1 (b2 + 1) cs, .ok (.dat (.int (b1 * 48271)))) := binD (d1 := .int b1) (d2 := .int 48271) rfl rfl (mul_r (by decide))
  have e2 : mBin dMod (mUn dInt (mVar 4)) (mC (.int 2147483647)) (tk n x2 x3 (.dat (.int c)) x5 x6 b0' b1 (b2 + 1) cs) = some (tk n x2 x3 (.dat (.int c)) x5 x6 b0' b1 (b2 + 1) cs, .ok (.dat (.int (c % 2147483647)))) := binD (d1 := .int c) (d2 := .int 2147483647) rfl rfl (mod_ok (by decide))
  have e3 : mBin dMul (mC (.int 7919)) (mBagIx 0 2) (tk n x2 x3 (.dat (.int c)) x5 x6 b0' b1 (b2 + 1) cs) = some (tk n x2 x3 (.dat (.int c)) x5 x6 b0' b1 (b2 + 1) cs, .ok (.dat (.int (7919 * (b2 + 1))))) := binD (d1 := .int 7919) (d2 := .int (b2 + 1)) rfl rfl (mul_l (by decide))
  have e4 := binD (f := dAdd) (binD (f := dAdd) e1 e2 rfl) e3 rfl
  rw [then_ok (set_ok e4)]
  have e5 := bagSet_ok (i := 0) (k := 1) (binD (f := dMod) (unD (f := dInt) (show mVar 5 (tk n x2 x3 (.dat (.int c)) (.dat (.int (b1 * 48271 + c % 2147483647 + 7919 * (b2 + 1)))) x6 b0' b1 (b2 + 1) cs) = some (_, .ok (.dat (.int (b1 * 48271 + c % 2147483647 + 7919 * (b2 + 1))))) from rfl) rfl) (show mC (.int 2147483647) _ = some (_, .ok (.dat (.int 2147483647))) from rfl) (mod_ok (by decide))) rfl rfl
  exact ⟨_, _, _, _, _, e5⟩
theorem take_ok (b0 b1 b2 : Int) (cs : List Int) (hc : cs.length ≤ 63) (n : Int) (hn : 0 < n) (hl : n.natAbs.log2 < 9000) : ∃ b0' b1' b2' v, F_law_take ⟨b0, b1, b2, cs⟩ [.bag, .dat (.int n)] = some (⟨b0', b1', b2', cs⟩, .ok (.dat (.int v))) ∧ 0 ≤ v ∧ v < n := by
  have nonneg : ∀ a : Int, 0 ≤ a % n ∧ a % n < n := fun a => ⟨Int.emod_nonneg _ (by omega), Int.emod_lt_of_pos _ hn⟩
  have key : ∃ b0' b1' b2' x v, m_law_take (tk n .no .no .no .no .no b0 b1 b2 cs) = some (⟨x, ⟨b0', b1', b2', cs⟩⟩, .ok (.rt (.dat (.int v)))) ∧ 0 ≤ v ∧ v < n := by
    unfold m_law_take
    have hA : ∃ c0 c1 c2 y4 y5, ∀ r : M Fl, mThen (mIfS (mIs (mBin cEq (mBagIx 0 0) (mC (.int 0)))) (mThen (mSet 4 (mBin dIx (mBin dAdd (mSl (mBagIx 0 3) (some (mBagIx 0 2)) none) (mLst [mC (.int 0)])) (mC (.int 0)))) (mThen (mBagAug 0 2 (mC (.int 1)))
      (mThen (mIfS (mIs (mBin cGe (mVar 4) (mBin dPow (mC (.int 10)) (mC (.int 18))))) (mBagSet 0 0 (mVar 4)) mNx) (mThen (mSet 5 (mBin dAdd (mBin dAdd (mBin dMul (mBagIx 0 1) (mC (.int 48271))) (mBin dMod (mUn dInt (mVar 4)) (mC (.int 2147483647)))) (mBin dMul (mC (.int 7919)) (mBagIx 0 2))))
        (mBagSet 0 1 (mBin dMod (mUn dInt (mVar 5)) (mC (.int 2147483647)))))))) mNx) r (tk n .no .no .no .no .no b0 b1 b2 cs) = r (tk n .no .no y4 y5 .no c0 c1 c2 cs) := by
      have ht : mIs (mBin cEq (mBagIx 0 0) (mC (.int 0))) (tk n .no .no .no .no .no b0 b1 b2 cs) = some (tk n .no .no .no .no .no b0 b1 b2 cs, .ok (decide (b0 = 0))) := rfl
      by_cases q : b0 = 0
      · subst q
        obtain ⟨c0, c1, c2, y4, y5, h⟩ := take_a n .no .no .no .no .no b1 b2 cs hc
        exact ⟨c0, c1, c2, y4, y5, fun r => then_ok (by rw [ifs_ok ht, decide_eq_true rfl]; exact h)⟩
      · exact ⟨b0, b1, b2, .no, .no, fun r => then_ok (by rw [ifs_ok ht, decide_eq_false q]; rfl)⟩
    obtain ⟨c0, c1, c2, y4, y5, hA⟩ := hA
    rw [hA]
    have ht : mIs (mBin cGt (mBagIx 0 0) (mC (.int 0))) (tk n .no .no y4 y5 .no c0 c1 c2 cs) = some (tk n .no .no y4 y5 .no c0 c1 c2 cs, .ok (decide (0 < c0))) := rfl
    by_cases q : 0 < c0
    · have e1 : mBin dMod (mUn dInt (mBagIx 0 0)) (mVar 1) (tk n .no .no y4 y5 .no c0 c1 c2 cs) = some (tk n .no .no y4 y5 .no c0 c1 c2 cs, .ok (.dat (.int (c0 % n)))) := binD (d1 := .int c0) (d2 := .int n) rfl rfl (mod_ok hn)
      have e2 : mBin dFdivW (mUn dInt (mBagIx 0 0)) (mVar 1) (tk n .no .no y4 y5 (.dat (.int (c0 % n))) c0 c1 c2 cs) = some (tk n .no .no y4 y5 (.dat (.int (c0 % n))) c0 c1 c2 cs, .ok (.dat (.int (c0 / n)))) := binD (d1 := .int c0) (d2 := .int n) rfl rfl (fdiv_ok ⟨hn, hl⟩)
      refine ⟨c0 / n, c1, c2, [.bag, .dat (.int n), .no, .no, y4, y5, .dat (.int (c0 % n))], c0 % n, then_rt ?_, nonneg _⟩
      rw [ifs_ok ht, decide_eq_true q]
      show mThen (mSet 6 (mBin dMod (mUn dInt (mBagIx 0 0)) (mVar 1))) (mThen (mBagSet 0 0 (mBin dFdivW (mUn dInt (mBagIx 0 0)) (mVar 1))) (mRet (mVar 6))) (tk n .no .no y4 y5 .no c0 c1 c2 cs) = _
      rw [then_ok (set_ok e1)]
      exact (then_ok (bagSet_ok (i := 0) (k := 0) e2 rfl rfl)).trans rfl
    · rw [then_ok (show mIfS _ _ mNx (tk n .no .no y4 y5 .no c0 c1 c2 cs) = some (tk n .no .no y4 y5 .no c0 c1 c2 cs, .ok .nx) from by rw [ifs_ok ht, decide_eq_false q]; rfl)]
      have e1 : mBin dMul (mBin dAdd (mBagIx 0 1) (mC (.int 1))) (mC (.int 39373)) (tk n .no .no y4 y5 .no c0 c1 c2 cs) = some (tk n .no .no y4 y5 .no c0 c1 c2 cs, .ok (.dat (.int ((c1 + 1) * 39373)))) := binD (d1 := .int (c1 + 1)) (d2 := .int 39373) rfl rfl (mul_r (by decide))
      have e2 := binD (f := dMod) (unD (f := dInt) e1 rfl) (show mC (.int 1000000007) _ = some (_, .ok (.dat (.int 1000000007))) from rfl) (mod_ok (by decide))
      rw [then_ok (show mSet 2 _ (tk n .no .no y4 y5 .no c0 c1 c2 cs) = some (tk n (.dat (.int ((c1 + 1) * 39373 % 1000000007))) .no y4 y5 .no c0 c1 c2 cs, .ok .nx) from set_ok e2)]
      have hb : 0 ≤ (c1 + 1) * 39373 % 1000000007 ∧ (c1 + 1) * 39373 % 1000000007 < 1000000007 := ⟨Int.emod_nonneg _ (by decide), Int.emod_lt_of_pos _ (by decide)⟩
      generalize hg : (c1 + 1) * 39373 % 1000000007 = bg at hb
      have f1 : mBin dMul (mVar 2) (mVar 2) (tk n (.dat (.int bg)) .no y4 y5 .no c0 c1 c2 cs) = some (tk n (.dat (.int bg)) .no y4 y5 .no c0 c1 c2 cs, .ok (.dat (.int (bg * bg)))) := binD (d1 := .int bg) (d2 := .int bg) rfl rfl (mul_l (by omega))
      have f2 := binD (f := dMod) (unD (f := dInt) f1 rfl) (show mC (.int 998244353) _ = some (_, .ok (.dat (.int 998244353))) from rfl) (mod_ok (by decide))
      have f3 := binD (f := dMul) f2 (show mC (.int 30011) _ = some (_, .ok (.dat (.int 30011))) from rfl) (mul_r (by decide))
      have f4 := binD (f := dMod) (unD (f := dInt) f3 rfl) (show mC (.int 998244353) _ = some (_, .ok (.dat (.int 998244353))) from rfl) (mod_ok (by decide))
      rw [then_ok (show mSet 3 _ (tk n (.dat (.int bg)) .no y4 y5 .no c0 c1 c2 cs) = some (tk n (.dat (.int bg)) (.dat (.int (bg * bg % 998244353 * 30011 % 998244353))) y4 y5 .no c0 c1 c2 cs, .ok .nx) from set_ok f4)]
      generalize bg * bg % 998244353 * 30011 % 998244353 = sc
      have g1 : mBin dFdivW (mVar 3) (mC (.int 7)) (tk n (.dat (.int bg)) (.dat (.int sc)) y4 y5 .no c0 c1 c2 cs) = some (tk n (.dat (.int bg)) (.dat (.int sc)) y4 y5 .no c0 c1 c2 cs, .ok (.dat (.int (sc / 7)))) := binD (d1 := .int sc) (d2 := .int 7) rfl rfl (fdiv_ok ⟨by decide, by decide⟩)
      have g2 := ret_ok (binD (f := dMod) (unD (f := dInt) g1 rfl) (show mVar 1 _ = some (_, .ok (.dat (.int n))) from rfl) (mod_ok hn))
      exact ⟨c0, c1, c2, _, sc / 7 % n, g2, nonneg _⟩
  obtain ⟨b0', b1', b2', x, v, h, h1, h2⟩ := key
  refine ⟨b0', b1', b2', v, ?_, h1, h2⟩
  unfold F_law_take runDef
  rw [show (⟨begin 7 [.bag, .dat (.int n)], ⟨b0, b1, b2, cs⟩⟩ : S) = tk n .no .no .no .no .no b0 b1 b2 cs from rfl, h]
  rfl
end Pu
namespace Pu
open PySem PySem.Spec PyProof.Rows L2
/-! the lap behind the draws, for each draw -/
def fun1 : D := .tuple [.str "f", .int 1, .str "told"]
def fun2 : D := .tuple [.str "g", .int 2, .str "either"]
def dF (k : Nat) : D := .tuple ([fun1, fun2].take k)
def dL (k : Nat) : D := .tuple ([.str "nil", .str "yes"].take k)
def dI (k : Nat) : D := .tuple ([.str "a", .str "b"].take k)
def stD (x0 x2 a9 a10 a11 a12 : Sl) (β : Bag) (f l i m n : Nat) : S := ⟨[x0, .bag, x2, .dat (dF f), .dat (dL l), .dat (dI i),
  .dat (.tuple [dF f, dL l, .tuple [.str "a", .str "b"], dI i, .tuple [], .tuple [.tuple [.str "put", .str "a", .str "b"]]]), .dat (.int m), .dat (.int n), a9, a10, a11, a12, .no], β⟩
def m_rest : M Fl := mThen m_l4 (mThen m_l5 (mThen m_l6 (mThen m_l7 (mThen m_l8 (mThen m_l9 m_l10)))))
def isNo (ρ : List Sl) : Bool := match ρ with
  | [_, .bag, _, _, _, _, _, _, _, _, _, _, _, .no] => true
  | _ => false
def okR : Option (S × Except Exn Fl) → Option Bag
  | some (s, .ok .nx) => if isNo s.ρ then some s.β else none
  | some (s, .ok .ct) => if isNo s.ρ then some s.β else none
  | _ => none
theorem go_11010 (x0 x2 a9 a10 a11 a12 : Sl) (β : Bag) : okR (m_rest (stD x0 x2 a9 a10 a11 a12 β 1 1 0 1 0)) = some β := by kernel_rfl
theorem go_11011 (x0 x2 a9 a10 a11 a12 : Sl) (β : Bag) : okR (m_rest (stD x0 x2 a9 a10 a11 a12 β 1 1 0 1 1)) = some β := by kernel_rfl
theorem go_11012 (x0 x2 a9 a10 a11 a12 : Sl) (β : Bag) : okR (m_rest (stD x0 x2 a9 a10 a11 a12 β 1 1 0 1 2)) = some β := by kernel_rfl
theorem go_11020 (x0 x2 a9 a10 a11 a12 : Sl) (β : Bag) : okR (m_rest (stD x0 x2 a9 a10 a11 a12 β 1 1 0 2 0)) = some β := by kernel_rfl
theorem go_11021 (x0 x2 a9 a10 a11 a12 : Sl) (β : Bag) : okR (m_rest (stD x0 x2 a9 a10 a11 a12 β 1 1 0 2 1)) = some β := by kernel_rfl
theorem go_11022 (x0 x2 a9 a10 a11 a12 : Sl) (β : Bag) : okR (m_rest (stD x0 x2 a9 a10 a11 a12 β 1 1 0 2 2)) = some β := by kernel_rfl
theorem go_11030 (x0 x2 a9 a10 a11 a12 : Sl) (β : Bag) : okR (m_rest (stD x0 x2 a9 a10 a11 a12 β 1 1 0 3 0)) = some β := by kernel_rfl
theorem go_11031 (x0 x2 a9 a10 a11 a12 : Sl) (β : Bag) : okR (m_rest (stD x0 x2 a9 a10 a11 a12 β 1 1 0 3 1)) = some β := by kernel_rfl
theorem go_11032 (x0 x2 a9 a10 a11 a12 : Sl) (β : Bag) : okR (m_rest (stD x0 x2 a9 a10 a11 a12 β 1 1 0 3 2)) = some β := by kernel_rfl
theorem go_11110 (x0 x2 a9 a10 a11 a12 : Sl) (β : Bag) : okR (m_rest (stD x0 x2 a9 a10 a11 a12 β 1 1 1 1 0)) = some β := by kernel_rfl
theorem go_11111 (x0 x2 a9 a10 a11 a12 : Sl) (β : Bag) : okR (m_rest (stD x0 x2 a9 a10 a11 a12 β 1 1 1 1 1)) = some β := by kernel_rfl
theorem go_11112 (x0 x2 a9 a10 a11 a12 : Sl) (β : Bag) : okR (m_rest (stD x0 x2 a9 a10 a11 a12 β 1 1 1 1 2)) = some β := by kernel_rfl
theorem go_11120 (x0 x2 a9 a10 a11 a12 : Sl) (β : Bag) : okR (m_rest (stD x0 x2 a9 a10 a11 a12 β 1 1 1 2 0)) = some β := by kernel_rfl
theorem go_11121 (x0 x2 a9 a10 a11 a12 : Sl) (β : Bag) : okR (m_rest (stD x0 x2 a9 a10 a11 a12 β 1 1 1 2 1)) = some β := by kernel_rfl
theorem go_11122 (x0 x2 a9 a10 a11 a12 : Sl) (β : Bag) : okR (m_rest (stD x0 x2 a9 a10 a11 a12 β 1 1 1 2 2)) = some β := by kernel_rfl
theorem go_11130 (x0 x2 a9 a10 a11 a12 : Sl) (β : Bag) : okR (m_rest (stD x0 x2 a9 a10 a11 a12 β 1 1 1 3 0)) = some β := by kernel_rfl
theorem go_11131 (x0 x2 a9 a10 a11 a12 : Sl) (β : Bag) : okR (m_rest (stD x0 x2 a9 a10 a11 a12 β 1 1 1 3 1)) = some β := by kernel_rfl
theorem go_11132 (x0 x2 a9 a10 a11 a12 : Sl) (β : Bag) : okR (m_rest (stD x0 x2 a9 a10 a11 a12 β 1 1 1 3 2)) = some β := by kernel_rfl
theorem go_11210 (x0 x2 a9 a10 a11 a12 : Sl) (β : Bag) : okR (m_rest (stD x0 x2 a9 a10 a11 a12 β 1 1 2 1 0)) = some β := by kernel_rfl
theorem go_11211 (x0 x2 a9 a10 a11 a12 : Sl) (β : Bag) : okR (m_rest (stD x0 x2 a9 a10 a11 a12 β 1 1 2 1 1)) = some β := by kernel_rfl
theorem go_11212 (x0 x2 a9 a10 a11 a12 : Sl) (β : Bag) : okR (m_rest (stD x0 x2 a9 a10 a11 a12 β 1 1 2 1 2)) = some β := by kernel_rfl
theorem go_11220 (x0 x2 a9 a10 a11 a12 : Sl) (β : Bag) : okR (m_rest (stD x0 x2 a9 a10 a11 a12 β 1 1 2 2 0)) = some β := by kernel_rfl
theorem go_11221 (x0 x2 a9 a10 a11 a12 : Sl) (β : Bag) : okR (m_rest (stD x0 x2 a9 a10 a11 a12 β 1 1 2 2 1)) = some β := by kernel_rfl
theorem go_11222 (x0 x2 a9 a10 a11 a12 : Sl) (β : Bag) : okR (m_rest (stD x0 x2 a9 a10 a11 a12 β 1 1 2 2 2)) = some β := by kernel_rfl
theorem go_11230 (x0 x2 a9 a10 a11 a12 : Sl) (β : Bag) : okR (m_rest (stD x0 x2 a9 a10 a11 a12 β 1 1 2 3 0)) = some β := by kernel_rfl
theorem go_11231 (x0 x2 a9 a10 a11 a12 : Sl) (β : Bag) : okR (m_rest (stD x0 x2 a9 a10 a11 a12 β 1 1 2 3 1)) = some β := by kernel_rfl
theorem go_11232 (x0 x2 a9 a10 a11 a12 : Sl) (β : Bag) : okR (m_rest (stD x0 x2 a9 a10 a11 a12 β 1 1 2 3 2)) = some β := by kernel_rfl
theorem go_12010 (x0 x2 a9 a10 a11 a12 : Sl) (β : Bag) : okR (m_rest (stD x0 x2 a9 a10 a11 a12 β 1 2 0 1 0)) = some β := by kernel_rfl
theorem go_12011 (x0 x2 a9 a10 a11 a12 : Sl) (β : Bag) : okR (m_rest (stD x0 x2 a9 a10 a11 a12 β 1 2 0 1 1)) = some β := by kernel_rfl
theorem go_12012 (x0 x2 a9 a10 a11 a12 : Sl) (β : Bag) : okR (m_rest (stD x0 x2 a9 a10 a11 a12 β 1 2 0 1 2)) = some β := by kernel_rfl
theorem go_12020 (x0 x2 a9 a10 a11 a12 : Sl) (β : Bag) : okR (m_rest (stD x0 x2 a9 a10 a11 a12 β 1 2 0 2 0)) = some β := by kernel_rfl
theorem go_12021 (x0 x2 a9 a10 a11 a12 : Sl) (β : Bag) : okR (m_rest (stD x0 x2 a9 a10 a11 a12 β 1 2 0 2 1)) = some β := by kernel_rfl
theorem go_12022 (x0 x2 a9 a10 a11 a12 : Sl) (β : Bag) : okR (m_rest (stD x0 x2 a9 a10 a11 a12 β 1 2 0 2 2)) = some β := by kernel_rfl
theorem go_12030 (x0 x2 a9 a10 a11 a12 : Sl) (β : Bag) : okR (m_rest (stD x0 x2 a9 a10 a11 a12 β 1 2 0 3 0)) = some β := by kernel_rfl
theorem go_12031 (x0 x2 a9 a10 a11 a12 : Sl) (β : Bag) : okR (m_rest (stD x0 x2 a9 a10 a11 a12 β 1 2 0 3 1)) = some β := by kernel_rfl
theorem go_12032 (x0 x2 a9 a10 a11 a12 : Sl) (β : Bag) : okR (m_rest (stD x0 x2 a9 a10 a11 a12 β 1 2 0 3 2)) = some β := by kernel_rfl
theorem go_12110 (x0 x2 a9 a10 a11 a12 : Sl) (β : Bag) : okR (m_rest (stD x0 x2 a9 a10 a11 a12 β 1 2 1 1 0)) = some β := by kernel_rfl
theorem go_12111 (x0 x2 a9 a10 a11 a12 : Sl) (β : Bag) : okR (m_rest (stD x0 x2 a9 a10 a11 a12 β 1 2 1 1 1)) = some β := by kernel_rfl
theorem go_12112 (x0 x2 a9 a10 a11 a12 : Sl) (β : Bag) : okR (m_rest (stD x0 x2 a9 a10 a11 a12 β 1 2 1 1 2)) = some β := by kernel_rfl
theorem go_12120 (x0 x2 a9 a10 a11 a12 : Sl) (β : Bag) : okR (m_rest (stD x0 x2 a9 a10 a11 a12 β 1 2 1 2 0)) = some β := by kernel_rfl
theorem go_12121 (x0 x2 a9 a10 a11 a12 : Sl) (β : Bag) : okR (m_rest (stD x0 x2 a9 a10 a11 a12 β 1 2 1 2 1)) = some β := by kernel_rfl
theorem go_12122 (x0 x2 a9 a10 a11 a12 : Sl) (β : Bag) : okR (m_rest (stD x0 x2 a9 a10 a11 a12 β 1 2 1 2 2)) = some β := by kernel_rfl
theorem go_12130 (x0 x2 a9 a10 a11 a12 : Sl) (β : Bag) : okR (m_rest (stD x0 x2 a9 a10 a11 a12 β 1 2 1 3 0)) = some β := by kernel_rfl
theorem go_12131 (x0 x2 a9 a10 a11 a12 : Sl) (β : Bag) : okR (m_rest (stD x0 x2 a9 a10 a11 a12 β 1 2 1 3 1)) = some β := by kernel_rfl
theorem go_12132 (x0 x2 a9 a10 a11 a12 : Sl) (β : Bag) : okR (m_rest (stD x0 x2 a9 a10 a11 a12 β 1 2 1 3 2)) = some β := by kernel_rfl
theorem go_12210 (x0 x2 a9 a10 a11 a12 : Sl) (β : Bag) : okR (m_rest (stD x0 x2 a9 a10 a11 a12 β 1 2 2 1 0)) = some β := by kernel_rfl
theorem go_12211 (x0 x2 a9 a10 a11 a12 : Sl) (β : Bag) : okR (m_rest (stD x0 x2 a9 a10 a11 a12 β 1 2 2 1 1)) = some β := by kernel_rfl
theorem go_12212 (x0 x2 a9 a10 a11 a12 : Sl) (β : Bag) : okR (m_rest (stD x0 x2 a9 a10 a11 a12 β 1 2 2 1 2)) = some β := by kernel_rfl
theorem go_12220 (x0 x2 a9 a10 a11 a12 : Sl) (β : Bag) : okR (m_rest (stD x0 x2 a9 a10 a11 a12 β 1 2 2 2 0)) = some β := by kernel_rfl
theorem go_12221 (x0 x2 a9 a10 a11 a12 : Sl) (β : Bag) : okR (m_rest (stD x0 x2 a9 a10 a11 a12 β 1 2 2 2 1)) = some β := by kernel_rfl
theorem go_12222 (x0 x2 a9 a10 a11 a12 : Sl) (β : Bag) : okR (m_rest (stD x0 x2 a9 a10 a11 a12 β 1 2 2 2 2)) = some β := by kernel_rfl
theorem go_12230 (x0 x2 a9 a10 a11 a12 : Sl) (β : Bag) : okR (m_rest (stD x0 x2 a9 a10 a11 a12 β 1 2 2 3 0)) = some β := by kernel_rfl
theorem go_12231 (x0 x2 a9 a10 a11 a12 : Sl) (β : Bag) : okR (m_rest (stD x0 x2 a9 a10 a11 a12 β 1 2 2 3 1)) = some β := by kernel_rfl
theorem go_12232 (x0 x2 a9 a10 a11 a12 : Sl) (β : Bag) : okR (m_rest (stD x0 x2 a9 a10 a11 a12 β 1 2 2 3 2)) = some β := by kernel_rfl
theorem go_21010 (x0 x2 a9 a10 a11 a12 : Sl) (β : Bag) : okR (m_rest (stD x0 x2 a9 a10 a11 a12 β 2 1 0 1 0)) = some β := by kernel_rfl
theorem go_21011 (x0 x2 a9 a10 a11 a12 : Sl) (β : Bag) : okR (m_rest (stD x0 x2 a9 a10 a11 a12 β 2 1 0 1 1)) = some β := by kernel_rfl
theorem go_21012 (x0 x2 a9 a10 a11 a12 : Sl) (β : Bag) : okR (m_rest (stD x0 x2 a9 a10 a11 a12 β 2 1 0 1 2)) = some β := by kernel_rfl
theorem go_21020 (x0 x2 a9 a10 a11 a12 : Sl) (β : Bag) : okR (m_rest (stD x0 x2 a9 a10 a11 a12 β 2 1 0 2 0)) = some β := by kernel_rfl
theorem go_21021 (x0 x2 a9 a10 a11 a12 : Sl) (β : Bag) : okR (m_rest (stD x0 x2 a9 a10 a11 a12 β 2 1 0 2 1)) = some β := by kernel_rfl
theorem go_21022 (x0 x2 a9 a10 a11 a12 : Sl) (β : Bag) : okR (m_rest (stD x0 x2 a9 a10 a11 a12 β 2 1 0 2 2)) = some β := by kernel_rfl
theorem go_21030 (x0 x2 a9 a10 a11 a12 : Sl) (β : Bag) : okR (m_rest (stD x0 x2 a9 a10 a11 a12 β 2 1 0 3 0)) = some β := by kernel_rfl
theorem go_21031 (x0 x2 a9 a10 a11 a12 : Sl) (β : Bag) : okR (m_rest (stD x0 x2 a9 a10 a11 a12 β 2 1 0 3 1)) = some β := by kernel_rfl
theorem go_21032 (x0 x2 a9 a10 a11 a12 : Sl) (β : Bag) : okR (m_rest (stD x0 x2 a9 a10 a11 a12 β 2 1 0 3 2)) = some β := by kernel_rfl
theorem go_21110 (x0 x2 a9 a10 a11 a12 : Sl) (β : Bag) : okR (m_rest (stD x0 x2 a9 a10 a11 a12 β 2 1 1 1 0)) = some β := by kernel_rfl
theorem go_21111 (x0 x2 a9 a10 a11 a12 : Sl) (β : Bag) : okR (m_rest (stD x0 x2 a9 a10 a11 a12 β 2 1 1 1 1)) = some β := by kernel_rfl
theorem go_21112 (x0 x2 a9 a10 a11 a12 : Sl) (β : Bag) : okR (m_rest (stD x0 x2 a9 a10 a11 a12 β 2 1 1 1 2)) = some β := by kernel_rfl
theorem go_21120 (x0 x2 a9 a10 a11 a12 : Sl) (β : Bag) : okR (m_rest (stD x0 x2 a9 a10 a11 a12 β 2 1 1 2 0)) = some β := by kernel_rfl
theorem go_21121 (x0 x2 a9 a10 a11 a12 : Sl) (β : Bag) : okR (m_rest (stD x0 x2 a9 a10 a11 a12 β 2 1 1 2 1)) = some β := by kernel_rfl
theorem go_21122 (x0 x2 a9 a10 a11 a12 : Sl) (β : Bag) : okR (m_rest (stD x0 x2 a9 a10 a11 a12 β 2 1 1 2 2)) = some β := by kernel_rfl
theorem go_21130 (x0 x2 a9 a10 a11 a12 : Sl) (β : Bag) : okR (m_rest (stD x0 x2 a9 a10 a11 a12 β 2 1 1 3 0)) = some β := by kernel_rfl
theorem go_21131 (x0 x2 a9 a10 a11 a12 : Sl) (β : Bag) : okR (m_rest (stD x0 x2 a9 a10 a11 a12 β 2 1 1 3 1)) = some β := by kernel_rfl
theorem go_21132 (x0 x2 a9 a10 a11 a12 : Sl) (β : Bag) : okR (m_rest (stD x0 x2 a9 a10 a11 a12 β 2 1 1 3 2)) = some β := by kernel_rfl
theorem go_21210 (x0 x2 a9 a10 a11 a12 : Sl) (β : Bag) : okR (m_rest (stD x0 x2 a9 a10 a11 a12 β 2 1 2 1 0)) = some β := by kernel_rfl
theorem go_21211 (x0 x2 a9 a10 a11 a12 : Sl) (β : Bag) : okR (m_rest (stD x0 x2 a9 a10 a11 a12 β 2 1 2 1 1)) = some β := by kernel_rfl
theorem go_21212 (x0 x2 a9 a10 a11 a12 : Sl) (β : Bag) : okR (m_rest (stD x0 x2 a9 a10 a11 a12 β 2 1 2 1 2)) = some β := by kernel_rfl
theorem go_21220 (x0 x2 a9 a10 a11 a12 : Sl) (β : Bag) : okR (m_rest (stD x0 x2 a9 a10 a11 a12 β 2 1 2 2 0)) = some β := by kernel_rfl
theorem go_21221 (x0 x2 a9 a10 a11 a12 : Sl) (β : Bag) : okR (m_rest (stD x0 x2 a9 a10 a11 a12 β 2 1 2 2 1)) = some β := by kernel_rfl
theorem go_21222 (x0 x2 a9 a10 a11 a12 : Sl) (β : Bag) : okR (m_rest (stD x0 x2 a9 a10 a11 a12 β 2 1 2 2 2)) = some β := by kernel_rfl
theorem go_21230 (x0 x2 a9 a10 a11 a12 : Sl) (β : Bag) : okR (m_rest (stD x0 x2 a9 a10 a11 a12 β 2 1 2 3 0)) = some β := by kernel_rfl
theorem go_21231 (x0 x2 a9 a10 a11 a12 : Sl) (β : Bag) : okR (m_rest (stD x0 x2 a9 a10 a11 a12 β 2 1 2 3 1)) = some β := by kernel_rfl
theorem go_21232 (x0 x2 a9 a10 a11 a12 : Sl) (β : Bag) : okR (m_rest (stD x0 x2 a9 a10 a11 a12 β 2 1 2 3 2)) = some β := by kernel_rfl
theorem go_22010 (x0 x2 a9 a10 a11 a12 : Sl) (β : Bag) : okR (m_rest (stD x0 x2 a9 a10 a11 a12 β 2 2 0 1 0)) = some β := by kernel_rfl
theorem go_22011 (x0 x2 a9 a10 a11 a12 : Sl) (β : Bag) : okR (m_rest (stD x0 x2 a9 a10 a11 a12 β 2 2 0 1 1)) = some β := by kernel_rfl
theorem go_22012 (x0 x2 a9 a10 a11 a12 : Sl) (β : Bag) : okR (m_rest (stD x0 x2 a9 a10 a11 a12 β 2 2 0 1 2)) = some β := by kernel_rfl
theorem go_22020 (x0 x2 a9 a10 a11 a12 : Sl) (β : Bag) : okR (m_rest (stD x0 x2 a9 a10 a11 a12 β 2 2 0 2 0)) = some β := by kernel_rfl
theorem go_22021 (x0 x2 a9 a10 a11 a12 : Sl) (β : Bag) : okR (m_rest (stD x0 x2 a9 a10 a11 a12 β 2 2 0 2 1)) = some β := by kernel_rfl
theorem go_22022 (x0 x2 a9 a10 a11 a12 : Sl) (β : Bag) : okR (m_rest (stD x0 x2 a9 a10 a11 a12 β 2 2 0 2 2)) = some β := by kernel_rfl
theorem go_22030 (x0 x2 a9 a10 a11 a12 : Sl) (β : Bag) : okR (m_rest (stD x0 x2 a9 a10 a11 a12 β 2 2 0 3 0)) = some β := by kernel_rfl
theorem go_22031 (x0 x2 a9 a10 a11 a12 : Sl) (β : Bag) : okR (m_rest (stD x0 x2 a9 a10 a11 a12 β 2 2 0 3 1)) = some β := by kernel_rfl
theorem go_22032 (x0 x2 a9 a10 a11 a12 : Sl) (β : Bag) : okR (m_rest (stD x0 x2 a9 a10 a11 a12 β 2 2 0 3 2)) = some β := by kernel_rfl
theorem go_22110 (x0 x2 a9 a10 a11 a12 : Sl) (β : Bag) : okR (m_rest (stD x0 x2 a9 a10 a11 a12 β 2 2 1 1 0)) = some β := by kernel_rfl
theorem go_22111 (x0 x2 a9 a10 a11 a12 : Sl) (β : Bag) : okR (m_rest (stD x0 x2 a9 a10 a11 a12 β 2 2 1 1 1)) = some β := by kernel_rfl
theorem go_22112 (x0 x2 a9 a10 a11 a12 : Sl) (β : Bag) : okR (m_rest (stD x0 x2 a9 a10 a11 a12 β 2 2 1 1 2)) = some β := by kernel_rfl
theorem go_22120 (x0 x2 a9 a10 a11 a12 : Sl) (β : Bag) : okR (m_rest (stD x0 x2 a9 a10 a11 a12 β 2 2 1 2 0)) = some β := by kernel_rfl
theorem go_22121 (x0 x2 a9 a10 a11 a12 : Sl) (β : Bag) : okR (m_rest (stD x0 x2 a9 a10 a11 a12 β 2 2 1 2 1)) = some β := by kernel_rfl
theorem go_22122 (x0 x2 a9 a10 a11 a12 : Sl) (β : Bag) : okR (m_rest (stD x0 x2 a9 a10 a11 a12 β 2 2 1 2 2)) = some β := by kernel_rfl
theorem go_22130 (x0 x2 a9 a10 a11 a12 : Sl) (β : Bag) : okR (m_rest (stD x0 x2 a9 a10 a11 a12 β 2 2 1 3 0)) = some β := by kernel_rfl
theorem go_22131 (x0 x2 a9 a10 a11 a12 : Sl) (β : Bag) : okR (m_rest (stD x0 x2 a9 a10 a11 a12 β 2 2 1 3 1)) = some β := by kernel_rfl
theorem go_22132 (x0 x2 a9 a10 a11 a12 : Sl) (β : Bag) : okR (m_rest (stD x0 x2 a9 a10 a11 a12 β 2 2 1 3 2)) = some β := by kernel_rfl
theorem go_22210 (x0 x2 a9 a10 a11 a12 : Sl) (β : Bag) : okR (m_rest (stD x0 x2 a9 a10 a11 a12 β 2 2 2 1 0)) = some β := by kernel_rfl
theorem go_22211 (x0 x2 a9 a10 a11 a12 : Sl) (β : Bag) : okR (m_rest (stD x0 x2 a9 a10 a11 a12 β 2 2 2 1 1)) = some β := by kernel_rfl
theorem go_22212 (x0 x2 a9 a10 a11 a12 : Sl) (β : Bag) : okR (m_rest (stD x0 x2 a9 a10 a11 a12 β 2 2 2 1 2)) = some β := by kernel_rfl
theorem go_22220 (x0 x2 a9 a10 a11 a12 : Sl) (β : Bag) : okR (m_rest (stD x0 x2 a9 a10 a11 a12 β 2 2 2 2 0)) = some β := by kernel_rfl
theorem go_22221 (x0 x2 a9 a10 a11 a12 : Sl) (β : Bag) : okR (m_rest (stD x0 x2 a9 a10 a11 a12 β 2 2 2 2 1)) = some β := by kernel_rfl
theorem go_22222 (x0 x2 a9 a10 a11 a12 : Sl) (β : Bag) : okR (m_rest (stD x0 x2 a9 a10 a11 a12 β 2 2 2 2 2)) = some β := by kernel_rfl
theorem go_22230 (x0 x2 a9 a10 a11 a12 : Sl) (β : Bag) : okR (m_rest (stD x0 x2 a9 a10 a11 a12 β 2 2 2 3 0)) = some β := by kernel_rfl
theorem go_22231 (x0 x2 a9 a10 a11 a12 : Sl) (β : Bag) : okR (m_rest (stD x0 x2 a9 a10 a11 a12 β 2 2 2 3 1)) = some β := by kernel_rfl
theorem go_22232 (x0 x2 a9 a10 a11 a12 : Sl) (β : Bag) : okR (m_rest (stD x0 x2 a9 a10 a11 a12 β 2 2 2 3 2)) = some β := by kernel_rfl
end Pu
namespace Pu
open PySem PySem.Spec PyProof.Rows L2
/-! the script's cells -/
theorem abs_comp (cs : List Int) : ∀ (acc : List D) (β : Bag) (x0 : Sl), acc.length + cs.length ≤ 63 →
    loopC [1] (Tg.put (.nm 1)) mYes (mUn dAbs (mVar 1)) (cs.map PyData.int) acc ⟨[x0, .no], β⟩ = some (⟨[x0, .no], β⟩, .ok (acc ++ cs.map fun c => .int (if c < 0 then -c else c))) := by
  induction cs with
  | nil => intro acc β x0 h; rw [List.map_nil, List.map_nil, List.append_nil]; rfl
  | cons c cs ih =>
    intro acc β x0 h
    rw [List.length_cons] at h
    have e : acc ++ (c :: cs).map (fun c => PyData.int (if c < 0 then -c else c)) = (acc ++ [.int (if c < 0 then -c else c)]) ++ cs.map fun c => .int (if c < 0 then -c else c) := by simp
    rw [e]
    have ih' := ih (acc ++ [.int (if c < 0 then -c else c)]) β x0 (by rw [List.length_append]; simp; omega)
    rw [← ih']
    have hl : acc.length < sizeLine := by rw [sizeLine_eq]; omega
    show (if acc.length < sizeLine then loopC [1] (Tg.put (.nm 1)) mYes (mUn dAbs (mVar 1)) (cs.map PyData.int) (acc ++ [.int (if c < 0 then -c else c)]) ⟨[x0, .no], β⟩ else none) = _
    rw [if_pos hl]
theorem bag_ok (ns : List Int) : ∃ cs : List Int, cs.length ≤ 63 ∧ m_bag ⟨begin N_law.length [.dat (.list (ns.map .int))], ⟨0, 0, 0, []⟩⟩ = some (⟨begin N_law.length [.dat (.list (ns.map .int))], ⟨0, 0, 0, []⟩⟩, .ok (.fresh [.int 0, .int 1234567891, .int 0, .list (cs.map .int)])) := by
  have hcut : cutD (ns.map PyData.int) none (some 63) = (ns.take 63).map PyData.int := by
    unfold cutD
    rw [List.length_map]
    show ((ns.map PyData.int).drop 0).take (min 63 ns.length - 0) = _
    rw [List.drop_zero, Nat.sub_zero, ← List.map_take]
    congr 1
    rw [Nat.min_def]
    split
    · rfl
    · rw [List.take_of_length_le (Nat.le_refl _), List.take_of_length_le (by omega)]
  refine ⟨(ns.take 63).map fun c => if c < 0 then -c else c, by rw [List.length_map, List.length_take]; omega, ?_⟩
  have hF : F_law_bag ⟨0, 0, 0, []⟩ [.dat (.list (ns.map .int))] = some (⟨0, 0, 0, []⟩, .ok (.fresh [.int 0, .int 1234567891, .int 0, .list (((ns.take 63).map fun c => if c < 0 then -c else c).map .int)])) := by
    have hc := abs_comp (ns.take 63) [] ⟨0, 0, 0, []⟩ (.dat (.list (ns.map .int))) (by rw [List.length_take, List.length_nil]; omega)
    have hseq : mSeq (mSl (mVar 0) none (some (mC (.int 63)))) ⟨[.dat (.list (ns.map .int)), .no], ⟨0, 0, 0, []⟩⟩ = some (⟨[.dat (.list (ns.map .int)), .no], ⟨0, 0, 0, []⟩⟩, .ok ((ns.take 63).map PyData.int)) := by
      show some (_, Except.ok (cutD (ns.map PyData.int) none (some 63))) = _
      rw [hcut]
    have hcomp : mComp [1] (mSeq (mSl (mVar 0) none (some (mC (.int 63))))) (.nm 1) mYes (mUn dAbs (mVar 1)) ⟨[.dat (.list (ns.map .int)), .no], ⟨0, 0, 0, []⟩⟩ = some (⟨[.dat (.list (ns.map .int)), .no], ⟨0, 0, 0, []⟩⟩, .ok (.fresh ((ns.take 63).map fun c => PyData.int (if c < 0 then -c else c)))) := by
      refine (bind_ok hseq).trans ?_
      show (M.bind (loopC [1] (Tg.put (.nm 1)) mYes (mUn dAbs (mVar 1)) ((ns.take 63).map PyData.int) []) fun acc => fun s' => some (({ s' with ρ := backS [.dat (.list (ns.map .int)), .no] s'.ρ [1] } : S), Except.ok (Rv.fresh acc))) ⟨[.dat (.list (ns.map .int)), .no], ⟨0, 0, 0, []⟩⟩ = _
      refine (bind_ok hc).trans ?_
      rw [List.nil_append]
      rfl
    have hm : m_law_bag ⟨[.dat (.list (ns.map .int)), .no], ⟨0, 0, 0, []⟩⟩ = some (⟨[.dat (.list (ns.map .int)), .no], ⟨0, 0, 0, []⟩⟩, .ok (.rt (.fresh [.int 0, .int 1234567891, .int 0, .list ((ns.take 63).map fun c => PyData.int (if c < 0 then -c else c))]))) := by
      unfold m_law_bag
      refine ret_ok ?_
      have h1 : mArgs [mC (.int 0), mC (.int 1234567891), mC (.int 0), mComp [1] (mSeq (mSl (mVar 0) none (some (mC (.int 63))))) (.nm 1) mYes (mUn dAbs (mVar 1))] ⟨[.dat (.list (ns.map .int)), .no], ⟨0, 0, 0, []⟩⟩ =
          some (⟨[.dat (.list (ns.map .int)), .no], ⟨0, 0, 0, []⟩⟩, .ok [.dat (.int 0), .dat (.int 1234567891), .dat (.int 0), .dat (.list ((ns.take 63).map fun c => PyData.int (if c < 0 then -c else c)))]) := by
        have h2 : mArgs [mComp [1] (mSeq (mSl (mVar 0) none (some (mC (.int 63))))) (.nm 1) mYes (mUn dAbs (mVar 1))] ⟨[.dat (.list (ns.map .int)), .no], ⟨0, 0, 0, []⟩⟩ =
            some (⟨[.dat (.list (ns.map .int)), .no], ⟨0, 0, 0, []⟩⟩, .ok [.dat (.list ((ns.take 63).map fun c => PyData.int (if c < 0 then -c else c)))]) := (bind_ok hcomp).trans rfl
        refine (bind_ok (show mC (.int 0) _ = some (_, .ok (.dat (.int 0))) from rfl)).trans ?_
        refine (bind_ok (show retainA (.dat (.int 0)) _ = some (_, .ok (.dat (.int 0))) from rfl)).trans ?_
        refine (bind_ok (a := [.dat (.int 1234567891), .dat (.int 0), .dat (.list ((ns.take 63).map fun c => PyData.int (if c < 0 then -c else c)))]) ?_).trans rfl
        refine (bind_ok (show mC (.int 1234567891) _ = some (_, .ok (.dat (.int 1234567891))) from rfl)).trans ?_
        refine (bind_ok (show retainA (.dat (.int 1234567891)) _ = some (_, .ok (.dat (.int 1234567891))) from rfl)).trans ?_
        refine (bind_ok (a := [.dat (.int 0), .dat (.list ((ns.take 63).map fun c => PyData.int (if c < 0 then -c else c)))]) ?_).trans rfl
        refine (bind_ok (show mC (.int 0) _ = some (_, .ok (.dat (.int 0))) from rfl)).trans ?_
        refine (bind_ok (show retainA (.dat (.int 0)) _ = some (_, .ok (.dat (.int 0))) from rfl)).trans ?_
        exact (bind_ok h2).trans rfl
      exact (bind_ok h1).trans rfl
    unfold F_law_bag runDef
    rw [show (⟨begin 2 [.dat (.list (ns.map .int))], ⟨0, 0, 0, []⟩⟩ : S) = ⟨[.dat (.list (ns.map .int)), .no], ⟨0, 0, 0, []⟩⟩ from rfl, hm, List.map_map]
    rfl
  show (match F_law_bag ⟨0, 0, 0, []⟩ [.dat (.list (ns.map .int))] with
    | none => none
    | some (β', .ok r) => some ((⟨begin N_law.length [.dat (.list (ns.map .int))], β'⟩ : S), Except.ok r.rv)
    | some (β', .error x) => some (⟨begin N_law.length [.dat (.list (ns.map .int))], β'⟩, .error x)) = _
  rw [hF]
  rfl
end Pu
namespace Pu
open PySem PySem.Spec PyProof.Rows L2
theorem go_all (x0 x2 a9 a10 a11 a12 : Sl) (β : Bag) (f l i m n : Nat) (hf : f = 1 ∨ f = 2) (hl : l = 1 ∨ l = 2) (hi : i = 0 ∨ i = 1 ∨ i = 2) (hm : m = 1 ∨ m = 2 ∨ m = 3) (hn : n = 0 ∨ n = 1 ∨ n = 2) : okR (m_rest (stD x0 x2 a9 a10 a11 a12 β f l i m n)) = some β := by
  rcases hf with rfl | rfl <;> rcases hl with rfl | rfl <;> rcases hi with rfl | rfl | rfl <;> rcases hm with rfl | rfl | rfl <;> rcases hn with rfl | rfl | rfl
  · exact go_11010 x0 x2 a9 a10 a11 a12 β
  · exact go_11011 x0 x2 a9 a10 a11 a12 β
  · exact go_11012 x0 x2 a9 a10 a11 a12 β
  · exact go_11020 x0 x2 a9 a10 a11 a12 β
  · exact go_11021 x0 x2 a9 a10 a11 a12 β
  · exact go_11022 x0 x2 a9 a10 a11 a12 β
  · exact go_11030 x0 x2 a9 a10 a11 a12 β
  · exact go_11031 x0 x2 a9 a10 a11 a12 β
  · exact go_11032 x0 x2 a9 a10 a11 a12 β
  · exact go_11110 x0 x2 a9 a10 a11 a12 β
  · exact go_11111 x0 x2 a9 a10 a11 a12 β
  · exact go_11112 x0 x2 a9 a10 a11 a12 β
  · exact go_11120 x0 x2 a9 a10 a11 a12 β
  · exact go_11121 x0 x2 a9 a10 a11 a12 β
  · exact go_11122 x0 x2 a9 a10 a11 a12 β
  · exact go_11130 x0 x2 a9 a10 a11 a12 β
  · exact go_11131 x0 x2 a9 a10 a11 a12 β
  · exact go_11132 x0 x2 a9 a10 a11 a12 β
  · exact go_11210 x0 x2 a9 a10 a11 a12 β
  · exact go_11211 x0 x2 a9 a10 a11 a12 β
  · exact go_11212 x0 x2 a9 a10 a11 a12 β
  · exact go_11220 x0 x2 a9 a10 a11 a12 β
  · exact go_11221 x0 x2 a9 a10 a11 a12 β
  · exact go_11222 x0 x2 a9 a10 a11 a12 β
  · exact go_11230 x0 x2 a9 a10 a11 a12 β
  · exact go_11231 x0 x2 a9 a10 a11 a12 β
  · exact go_11232 x0 x2 a9 a10 a11 a12 β
  · exact go_12010 x0 x2 a9 a10 a11 a12 β
  · exact go_12011 x0 x2 a9 a10 a11 a12 β
  · exact go_12012 x0 x2 a9 a10 a11 a12 β
  · exact go_12020 x0 x2 a9 a10 a11 a12 β
  · exact go_12021 x0 x2 a9 a10 a11 a12 β
  · exact go_12022 x0 x2 a9 a10 a11 a12 β
  · exact go_12030 x0 x2 a9 a10 a11 a12 β
  · exact go_12031 x0 x2 a9 a10 a11 a12 β
  · exact go_12032 x0 x2 a9 a10 a11 a12 β
  · exact go_12110 x0 x2 a9 a10 a11 a12 β
  · exact go_12111 x0 x2 a9 a10 a11 a12 β
  · exact go_12112 x0 x2 a9 a10 a11 a12 β
  · exact go_12120 x0 x2 a9 a10 a11 a12 β
  · exact go_12121 x0 x2 a9 a10 a11 a12 β
  · exact go_12122 x0 x2 a9 a10 a11 a12 β
  · exact go_12130 x0 x2 a9 a10 a11 a12 β
  · exact go_12131 x0 x2 a9 a10 a11 a12 β
  · exact go_12132 x0 x2 a9 a10 a11 a12 β
  · exact go_12210 x0 x2 a9 a10 a11 a12 β
  · exact go_12211 x0 x2 a9 a10 a11 a12 β
  · exact go_12212 x0 x2 a9 a10 a11 a12 β
  · exact go_12220 x0 x2 a9 a10 a11 a12 β
  · exact go_12221 x0 x2 a9 a10 a11 a12 β
  · exact go_12222 x0 x2 a9 a10 a11 a12 β
  · exact go_12230 x0 x2 a9 a10 a11 a12 β
  · exact go_12231 x0 x2 a9 a10 a11 a12 β
  · exact go_12232 x0 x2 a9 a10 a11 a12 β
  · exact go_21010 x0 x2 a9 a10 a11 a12 β
  · exact go_21011 x0 x2 a9 a10 a11 a12 β
  · exact go_21012 x0 x2 a9 a10 a11 a12 β
  · exact go_21020 x0 x2 a9 a10 a11 a12 β
  · exact go_21021 x0 x2 a9 a10 a11 a12 β
  · exact go_21022 x0 x2 a9 a10 a11 a12 β
  · exact go_21030 x0 x2 a9 a10 a11 a12 β
  · exact go_21031 x0 x2 a9 a10 a11 a12 β
  · exact go_21032 x0 x2 a9 a10 a11 a12 β
  · exact go_21110 x0 x2 a9 a10 a11 a12 β
  · exact go_21111 x0 x2 a9 a10 a11 a12 β
  · exact go_21112 x0 x2 a9 a10 a11 a12 β
  · exact go_21120 x0 x2 a9 a10 a11 a12 β
  · exact go_21121 x0 x2 a9 a10 a11 a12 β
  · exact go_21122 x0 x2 a9 a10 a11 a12 β
  · exact go_21130 x0 x2 a9 a10 a11 a12 β
  · exact go_21131 x0 x2 a9 a10 a11 a12 β
  · exact go_21132 x0 x2 a9 a10 a11 a12 β
  · exact go_21210 x0 x2 a9 a10 a11 a12 β
  · exact go_21211 x0 x2 a9 a10 a11 a12 β
  · exact go_21212 x0 x2 a9 a10 a11 a12 β
  · exact go_21220 x0 x2 a9 a10 a11 a12 β
  · exact go_21221 x0 x2 a9 a10 a11 a12 β
  · exact go_21222 x0 x2 a9 a10 a11 a12 β
  · exact go_21230 x0 x2 a9 a10 a11 a12 β
  · exact go_21231 x0 x2 a9 a10 a11 a12 β
  · exact go_21232 x0 x2 a9 a10 a11 a12 β
  · exact go_22010 x0 x2 a9 a10 a11 a12 β
  · exact go_22011 x0 x2 a9 a10 a11 a12 β
  · exact go_22012 x0 x2 a9 a10 a11 a12 β
  · exact go_22020 x0 x2 a9 a10 a11 a12 β
  · exact go_22021 x0 x2 a9 a10 a11 a12 β
  · exact go_22022 x0 x2 a9 a10 a11 a12 β
  · exact go_22030 x0 x2 a9 a10 a11 a12 β
  · exact go_22031 x0 x2 a9 a10 a11 a12 β
  · exact go_22032 x0 x2 a9 a10 a11 a12 β
  · exact go_22110 x0 x2 a9 a10 a11 a12 β
  · exact go_22111 x0 x2 a9 a10 a11 a12 β
  · exact go_22112 x0 x2 a9 a10 a11 a12 β
  · exact go_22120 x0 x2 a9 a10 a11 a12 β
  · exact go_22121 x0 x2 a9 a10 a11 a12 β
  · exact go_22122 x0 x2 a9 a10 a11 a12 β
  · exact go_22130 x0 x2 a9 a10 a11 a12 β
  · exact go_22131 x0 x2 a9 a10 a11 a12 β
  · exact go_22132 x0 x2 a9 a10 a11 a12 β
  · exact go_22210 x0 x2 a9 a10 a11 a12 β
  · exact go_22211 x0 x2 a9 a10 a11 a12 β
  · exact go_22212 x0 x2 a9 a10 a11 a12 β
  · exact go_22220 x0 x2 a9 a10 a11 a12 β
  · exact go_22221 x0 x2 a9 a10 a11 a12 β
  · exact go_22222 x0 x2 a9 a10 a11 a12 β
  · exact go_22230 x0 x2 a9 a10 a11 a12 β
  · exact go_22231 x0 x2 a9 a10 a11 a12 β
  · exact go_22232 x0 x2 a9 a10 a11 a12 β
theorem okR_inv {r : Option (S × Except Exn Fl)} {β : Bag} (h : okR r = some β) : ∃ s fl, r = some (s, .ok fl) ∧ (fl = .nx ∨ fl = .ct) ∧ isNo s.ρ = true ∧ s.β = β := by
  unfold okR at h
  split at h
  · split at h
    · cases h; exact ⟨_, _, rfl, .inl rfl, by assumption, rfl⟩
    · cases h
  · split at h
    · cases h; exact ⟨_, _, rfl, .inr rfl, by assumption, rfl⟩
    · cases h
  · cases h
abbrev la (x0 x2 x3 x4 x5 x6 x7 x8 x9 x10 x11 x12 : Sl) (β : Bag) : S := ⟨[x0, .bag, x2, x3, x4, x5, x6, x7, x8, x9, x10, x11, x12, .no], β⟩
theorem isNo_inv {ρ : List Sl} (h : isNo ρ = true) : ∃ x0 x2 x3 x4 x5 x6 x7 x8 x9 x10 x11 x12, ρ = [x0, .bag, x2, x3, x4, x5, x6, x7, x8, x9, x10, x11, x12, .no] := by
  unfold isNo at h
  split at h
  · exact ⟨_, _, _, _, _, _, _, _, _, _, _, _, rfl⟩
  · cases h
theorem callT {x0 x2 x3 x4 x5 x6 x7 x8 x9 x10 x11 x12 : Sl} {β β' : Bag} {n v : Int} (h : F_law_take β [.bag, .dat (.int n)] = some (β', .ok (.dat (.int v)))) :
    mCall F_law_take [mVar 1, mC (.int n)] (la x0 x2 x3 x4 x5 x6 x7 x8 x9 x10 x11 x12 β) = some (la x0 x2 x3 x4 x5 x6 x7 x8 x9 x10 x11 x12 β', .ok (.dat (.int v))) := by
  show (match F_law_take β [.bag, .dat (.int n)] with
    | none => none
    | some (β', .ok r) => some (la x0 x2 x3 x4 x5 x6 x7 x8 x9 x10 x11 x12 β', Except.ok r.rv)
    | some (β', .error x) => some (la x0 x2 x3 x4 x5 x6 x7 x8 x9 x10 x11 x12 β', Except.error x)) = _
  rw [h]
  rfl
theorem sl_ok {m mh : M Rv} {s s1 s2 : S} {d d' : D} {k : Int} (h1 : m s = some (s1, .ok (.dat d))) (h2 : mh s1 = some (s2, .ok (.dat (.int k)))) (hd : dSl d none (some k) = some (.dat d')) : mSl m none (some mh) s = some (s2, .ok (.dat d')) := by
  have h3 : mPart (some mh) s1 = some (s2, .ok (some k)) := (bind_ok h2).trans rfl
  refine (bind_ok h1).trans ((bind_ok (show mPart none s1 = some (s1, .ok none) from rfl)).trans ((bind_ok h3).trans ?_))
  refine (bind_ok (show peek (settle (.dat d)) s2 = some (s2, .ok d) from rfl)).trans ?_
  exact (bind_ok (show M.lift (dSl d none (some k)) s2 = some (s2, .ok (.dat d')) from by unfold M.lift; rw [hd]; rfl)).trans rfl
theorem tup2_ok {m1 m2 : M Rv} {s s1 s2 : S} {d1 d2 : D} (h1 : m1 s = some (s1, .ok (.dat d1))) (h2 : m2 s1 = some (s2, .ok (.dat d2))) : mTup [m1, m2] s = some (s2, .ok (.dat (.tuple [d1, d2]))) := by
  have e2 : mArgs [m2] s1 = some (s2, .ok [.dat d2]) := (bind_ok h2).trans ((bind_ok (show retainA (.dat d2) s2 = some (s2, .ok (.dat d2)) from rfl)).trans rfl)
  have e1 : mArgs [m1, m2] s = some (s2, .ok [.dat d1, .dat d2]) := (bind_ok h1).trans ((bind_ok (show retainA (.dat d1) s1 = some (s1, .ok (.dat d1)) from rfl)).trans ((bind_ok e2).trans rfl))
  exact (bind_ok e1).trans rfl
theorem asg2_ok {i j : Nat} {m : M Rv} {s s1 : S} {d1 d2 : D} (h : m s = some (s1, .ok (.dat (.tuple [d1, d2])))) : mAsg (.tup [.nm i, .nm j]) m s = some ({ s1 with ρ := (s1.ρ.set i (.dat d1)).set j (.dat d2) }, .ok .nx) :=
  (bind_ok h).trans rfl
def vF (v : Int) : D := .tuple (cutD [fun1, fun2] none (some (1 + v)))
def vL (v : Int) : D := .tuple (cutD [.str "nil", .str "yes"] none (some (1 + v)))
def vI (v : Int) : D := .tuple (cutD [.str "a", .str "b"] none (some v))
theorem lap_ok (s : S) (hn : isNo s.ρ = true) (hc : s.β.cs.length ≤ 63) : ∃ s' fl, m_lap s = some (s', .ok fl) ∧ (fl = .nx ∨ fl = .ct) ∧ isNo s'.ρ = true ∧ s'.β.cs.length ≤ 63 := by
  obtain ⟨ρ, b0, b1, b2, cs⟩ := s
  obtain ⟨x0, x2, x3, x4, x5, x6, x7, x8, x9, x10, x11, x12, rfl⟩ := isNo_inv hn
  have hc' : cs.length ≤ 63 := hc
  obtain ⟨p0, p1, p2, v0, t0, v0a, v0b⟩ := take_ok b0 b1 b2 cs hc' 2 (by decide) (by decide)
  obtain ⟨q0, q1, q2, v1, t1, v1a, v1b⟩ := take_ok p0 p1 p2 cs hc' 2 (by decide) (by decide)
  obtain ⟨r0, r1, r2, v2, t2, v2a, v2b⟩ := take_ok q0 q1 q2 cs hc' 3 (by decide) (by decide)
  obtain ⟨u0, u1, u2, v3, t3, v3a, v3b⟩ := take_ok r0 r1 r2 cs hc' 3 (by decide) (by decide)
  obtain ⟨w0, w1, w2, v4, t4, v4a, v4b⟩ := take_ok u0 u1 u2 cs hc' 3 (by decide) (by decide)
  have e0 : m_l0 (la x0 x2 x3 x4 x5 x6 x7 x8 x9 x10 x11 x12 ⟨b0, b1, b2, cs⟩) = some (la x0 x2 (.dat (vF v0)) x4 x5 x6 x7 x8 x9 x10 x11 x12 ⟨p0, p1, p2, cs⟩, .ok .nx) :=
    set_ok (sl_ok (d := .tuple [fun1, fun2]) rfl (binD (f := dAdd) (d1 := .int 1) (show mC (.int 1) _ = some (_, .ok (.dat (.int 1))) from rfl) (callT t0) rfl) rfl)
  have e1 : m_l1 (la x0 x2 (.dat (vF v0)) x4 x5 x6 x7 x8 x9 x10 x11 x12 ⟨p0, p1, p2, cs⟩) = some (la x0 x2 (.dat (vF v0)) (.dat (vL v1)) (.dat (vI v2)) x6 x7 x8 x9 x10 x11 x12 ⟨r0, r1, r2, cs⟩, .ok .nx) :=
    asg2_ok (tup2_ok (sl_ok (d := .tuple [.str "nil", .str "yes"]) rfl (binD (f := dAdd) (d1 := .int 1) (show mC (.int 1) _ = some (_, .ok (.dat (.int 1))) from rfl) (callT t1) rfl) rfl) (sl_ok (d := .tuple [.str "a", .str "b"]) rfl (callT t2) rfl))
  have e2 : m_l2 (la x0 x2 (.dat (vF v0)) (.dat (vL v1)) (.dat (vI v2)) x6 x7 x8 x9 x10 x11 x12 ⟨r0, r1, r2, cs⟩) = some (la x0 x2 (.dat (vF v0)) (.dat (vL v1)) (.dat (vI v2)) (.dat (.tuple [vF v0, vL v1, .tuple [.str "a", .str "b"], vI v2, .tuple [], .tuple [.tuple [.str "put", .str "a", .str "b"]]])) x7 x8 x9 x10 x11 x12 ⟨r0, r1, r2, cs⟩, .ok .nx) := rfl
  have e3 : m_l3 (la x0 x2 (.dat (vF v0)) (.dat (vL v1)) (.dat (vI v2)) (.dat (.tuple [vF v0, vL v1, .tuple [.str "a", .str "b"], vI v2, .tuple [], .tuple [.tuple [.str "put", .str "a", .str "b"]]])) x7 x8 x9 x10 x11 x12 ⟨r0, r1, r2, cs⟩) =
      some (la x0 x2 (.dat (vF v0)) (.dat (vL v1)) (.dat (vI v2)) (.dat (.tuple [vF v0, vL v1, .tuple [.str "a", .str "b"], vI v2, .tuple [], .tuple [.tuple [.str "put", .str "a", .str "b"]]])) (.dat (.int (1 + v3))) (.dat (.int v4)) x9 x10 x11 x12 ⟨w0, w1, w2, cs⟩, .ok .nx) :=
    asg2_ok (tup2_ok (binD (f := dAdd) (d1 := .int 1) (show mC (.int 1) _ = some (_, .ok (.dat (.int 1))) from rfl) (callT t3) rfl) (callT t4))
  obtain ⟨f, hf, ef⟩ : ∃ f : Nat, (f = 1 ∨ f = 2) ∧ vF v0 = dF f := by
    rcases (show v0 = 0 ∨ v0 = 1 by omega) with rfl | rfl
    · exact ⟨1, .inl rfl, by rfl⟩
    · exact ⟨2, .inr rfl, by rfl⟩
  obtain ⟨l, hl, el⟩ : ∃ f : Nat, (f = 1 ∨ f = 2) ∧ vL v1 = dL f := by
    rcases (show v1 = 0 ∨ v1 = 1 by omega) with rfl | rfl
    · exact ⟨1, .inl rfl, by rfl⟩
    · exact ⟨2, .inr rfl, by rfl⟩
  obtain ⟨i, hi, ei⟩ : ∃ f : Nat, (f = 0 ∨ f = 1 ∨ f = 2) ∧ vI v2 = dI f := by
    rcases (show v2 = 0 ∨ v2 = 1 ∨ v2 = 2 by omega) with rfl | rfl | rfl
    · exact ⟨0, .inl rfl, by rfl⟩
    · exact ⟨1, .inr (.inl rfl), by rfl⟩
    · exact ⟨2, .inr (.inr rfl), by rfl⟩
  obtain ⟨m, hm, em⟩ : ∃ m : Nat, (m = 1 ∨ m = 2 ∨ m = 3) ∧ 1 + v3 = (m : Int) := ⟨(1 + v3).toNat, by omega, by omega⟩
  obtain ⟨n, hnn, en⟩ : ∃ n : Nat, (n = 0 ∨ n = 1 ∨ n = 2) ∧ v4 = (n : Int) := ⟨v4.toNat, by omega, by omega⟩
  have e : m_lap (la x0 x2 x3 x4 x5 x6 x7 x8 x9 x10 x11 x12 ⟨b0, b1, b2, cs⟩) = m_rest (stD x0 x2 x9 x10 x11 x12 ⟨w0, w1, w2, cs⟩ f l i m n) := by
    unfold m_lap
    rw [then_ok e0, then_ok e1, then_ok e2, then_ok e3, ef, el, ei, em, en]
    rfl
  obtain ⟨s', fl, h1, h2, h3, h4⟩ := okR_inv (go_all x0 x2 x9 x10 x11 x12 ⟨w0, w1, w2, cs⟩ f l i m n hf hl hi hm hnn)
  exact ⟨s', fl, e.trans h1, h2, h3, by rw [h4]; exact hc'⟩
theorem laps_ok : ∀ (ds : List D) (s : S), isNo s.ρ = true → s.β.cs.length ≤ 63 → ∃ s', loopF (Tg.put (.nm 2)) m_lap ds s = some (s', .ok .nx) ∧ isNo s'.ρ = true ∧ s'.β.cs.length ≤ 63
  | [], s, hn, hc => ⟨s, rfl, hn, hc⟩
  | d :: ds, s, hn, hc => by
    obtain ⟨ρ, β⟩ := s
    obtain ⟨x0, x2, x3, x4, x5, x6, x7, x8, x9, x10, x11, x12, rfl⟩ := isNo_inv hn
    obtain ⟨s', fl, h1, h2, h3, h4⟩ := lap_ok (la x0 (.dat d) x3 x4 x5 x6 x7 x8 x9 x10 x11 x12 β) rfl hc
    obtain ⟨s2, k1, k2, k3⟩ := laps_ok ds s' h3 h4
    refine ⟨s2, ?_, k2, k3⟩
    refine (bind_ok (show Tg.put (.nm 2) d (la x0 x2 x3 x4 x5 x6 x7 x8 x9 x10 x11 x12 β) = some (la x0 (.dat d) x3 x4 x5 x6 x7 x8 x9 x10 x11 x12 β, .ok ()) from rfl)).trans ?_
    refine (bind_ok h1).trans ?_
    rcases h2 with rfl | rfl
    · exact k1
    · exact k1
theorem hf_law (ns : List Int) (_ : ns.length ≤ 63) : ∃ s b0 b1 b2 cs s2, m_bag ⟨begin N_law.length [.dat (.list (ns.map .int))], ⟨0, 0, 0, []⟩⟩ = some (s, .ok (.fresh [.int b0, .int b1, .int b2, .list (cs.map .int)])) ∧
      m_law ⟨s.ρ.set 1 .bag, ⟨b0, b1, b2, cs⟩⟩ = some (s2, .ok (.rt (.dat (.bool true)))) := by
  obtain ⟨cs, hc, hb⟩ := bag_ok ns
  obtain ⟨s', h1, _, _⟩ := laps_ok (rangeD 0 4) ⟨(begin N_law.length [.dat (.list (ns.map .int))]).set 1 .bag, ⟨0, 1234567891, 0, cs⟩⟩ rfl hc
  refine ⟨_, 0, 1234567891, 0, cs, s', hb, ?_⟩
  have hr : mRng1 (mC (.int 4)) ⟨(begin N_law.length [.dat (.list (ns.map .int))]).set 1 .bag, ⟨0, 1234567891, 0, cs⟩⟩ = some (⟨(begin N_law.length [.dat (.list (ns.map .int))]).set 1 .bag, ⟨0, 1234567891, 0, cs⟩⟩, .ok (rangeD 0 4)) := by kernel_rfl
  exact (then_ok ((bind_ok hr).trans h1)).trans rfl
end Pu
namespace Pu
open PySem PySem.Spec PyProof.Rows L2
/-! ### the head: what it leaves, the run -/
def mkD (x : Str) (st : Stmt) : He.DefD := ⟨(x, none), x, x, defArgs st, defBody st, defScope st, [], []⟩
def fnT : List He.DefD := [mkD "_law_bag" s_law_bag, mkD "_law_power" s_law_power, mkD "_law_tuples" s_law_tuples, mkD "_law_count" s_law_count, mkD "_law_take" s_law_take, mkD "_law_alike" s_law_alike, mkD "_law_functions" s_law_functions, mkD "is_number" s_is_number, mkD "is_index" s_is_index, mkD "check_numbers" s_check_numbers, mkD "many_tuples" s_many_tuples, mkD "many_keys" s_many_keys, mkD "how_many_worlds" s_how_many_worlds, mkD "letters_of" s_letters_of, mkD "tuples_of" s_tuples_of, mkD "keys_of" s_keys_of, mkD "tables_of" s_tables_of, mkD "functions_of" s_functions_of, mkD "small_worlds" s_small_worlds, mkD "law" s_law]
def faT : List He.Fa := [.glo "_law_bag", .glo "_law_power", .glo "_law_tuples", .glo "_law_count", .glo "_law_take", .glo "_law_alike", .glo "_law_functions", .glo "is_number", .glo "is_index", .glo "check_numbers", .glo "many_tuples", .glo "many_keys", .glo "how_many_worlds", .glo "letters_of", .glo "tuples_of", .glo "keys_of", .glo "tables_of", .glo "functions_of", .glo "small_worlds", .glo "law", .glo "TooLarge", .free "len", .free "int", .free "abs", .free "tuple", .free "list", .free "sorted", .free "repr", .free "max", .free "isinstance", .free "range", .free "zip", .free "set", .free "bool", .free "super", .int "MOST_ANYS" 12, .int "MOST_WORLDS" 5000, .int "MOST_WORTHS" 6, .exm "TooLarge" "TooLarge" true, .noat "TooLarge" "what", .noat "TooLarge" "limit"]
def xsT : List InD := [iTooLarge]
abbrev rowT : PySem.W.OpenRow := PySem.W.OpenLaw.row PySem.Challenge.rw_heldterms_k69_small_worlds
abbrev hkT : PySem.W.Hook := hookP prg.main.file 6 faT fnT xsT
def obT (s : PySem.W.SharedT) : AlP := obsPG prg.main.file 6 faT fnT xsT (HandSHeadRun.getT s)
theorem obT_eq (s : PySem.W.SharedT) : obT s = hkT.obs s.abs := obsPG_eq (HandSHeadRun.getT_eq s)
def looseT : List Str := ["_wall", "HeldError", "Nothing", "TooLarge", "is_number", "is_index", "MOST_WORTHS", "MOST_ANYS", "MOST_WORLDS", "check_numbers", "many_tuples", "many_keys", "how_many_worlds", "tuples_of", "letters_of", "keys_of", "tables_of", "functions_of", "small_worlds", "_law_bag", "_law_take", "_law_alike", "_law_tuples", "_law_functions", "_law_power", "_law_count"]
theorem runT (w : World) : HandSHeadRun.RunEq rowT (PySem.W.view rowT.prog [30]) hkT obT 3000 looseT w := by
  intro os
  kernel_rfl
end Pu
namespace Pu
open PySem PySem.Spec PyProof.Rows L2
theorem mdT {K : PySem.W.Frag} {h : Heap} {mg : Str → Option Value} (X : K.In h) (G : h.Ns mainGlobals mg) (c : obsP prg.main.file faT fnT xsT K = valP fnT xsT) : ∃ M : Md K mg, M.f_law = He.ga K "law" ∧ ∀ (s : Shared) (v : Value), BindsTo s M.fd_law ⟨[v], []⟩ [("script", v)] := by
  have D := saysD c
  obtain ⟨d0, F0⟩ := D.def_ 0 (d := mkD "_law_bag" s_law_bag) rfl
  have F0 : FunD K "_law_bag" "_law_bag" (defArgs s_law_bag) (defBody s_law_bag) (defScope s_law_bag) [] [] (He.ga K "_law_bag") d0 := F0
  obtain ⟨d1, F1⟩ := D.def_ 1 (d := mkD "_law_power" s_law_power) rfl
  have F1 : FunD K "_law_power" "_law_power" (defArgs s_law_power) (defBody s_law_power) (defScope s_law_power) [] [] (He.ga K "_law_power") d1 := F1
  obtain ⟨d2, F2⟩ := D.def_ 2 (d := mkD "_law_tuples" s_law_tuples) rfl
  have F2 : FunD K "_law_tuples" "_law_tuples" (defArgs s_law_tuples) (defBody s_law_tuples) (defScope s_law_tuples) [] [] (He.ga K "_law_tuples") d2 := F2
  obtain ⟨d3, F3⟩ := D.def_ 3 (d := mkD "_law_count" s_law_count) rfl
  have F3 : FunD K "_law_count" "_law_count" (defArgs s_law_count) (defBody s_law_count) (defScope s_law_count) [] [] (He.ga K "_law_count") d3 := F3
  obtain ⟨d4, F4⟩ := D.def_ 4 (d := mkD "_law_take" s_law_take) rfl
  have F4 : FunD K "_law_take" "_law_take" (defArgs s_law_take) (defBody s_law_take) (defScope s_law_take) [] [] (He.ga K "_law_take") d4 := F4
  obtain ⟨d5, F5⟩ := D.def_ 5 (d := mkD "_law_alike" s_law_alike) rfl
  have F5 : FunD K "_law_alike" "_law_alike" (defArgs s_law_alike) (defBody s_law_alike) (defScope s_law_alike) [] [] (He.ga K "_law_alike") d5 := F5
  obtain ⟨d6, F6⟩ := D.def_ 6 (d := mkD "_law_functions" s_law_functions) rfl
  have F6 : FunD K "_law_functions" "_law_functions" (defArgs s_law_functions) (defBody s_law_functions) (defScope s_law_functions) [] [] (He.ga K "_law_functions") d6 := F6
  obtain ⟨d7, F7⟩ := D.def_ 7 (d := mkD "is_number" s_is_number) rfl
  have F7 : FunD K "is_number" "is_number" (defArgs s_is_number) (defBody s_is_number) (defScope s_is_number) [] [] (He.ga K "is_number") d7 := F7
  obtain ⟨d8, F8⟩ := D.def_ 8 (d := mkD "is_index" s_is_index) rfl
  have F8 : FunD K "is_index" "is_index" (defArgs s_is_index) (defBody s_is_index) (defScope s_is_index) [] [] (He.ga K "is_index") d8 := F8
  obtain ⟨d9, F9⟩ := D.def_ 9 (d := mkD "check_numbers" s_check_numbers) rfl
  have F9 : FunD K "check_numbers" "check_numbers" (defArgs s_check_numbers) (defBody s_check_numbers) (defScope s_check_numbers) [] [] (He.ga K "check_numbers") d9 := F9
  obtain ⟨d10, F10⟩ := D.def_ 10 (d := mkD "many_tuples" s_many_tuples) rfl
  have F10 : FunD K "many_tuples" "many_tuples" (defArgs s_many_tuples) (defBody s_many_tuples) (defScope s_many_tuples) [] [] (He.ga K "many_tuples") d10 := F10
  obtain ⟨d11, F11⟩ := D.def_ 11 (d := mkD "many_keys" s_many_keys) rfl
  have F11 : FunD K "many_keys" "many_keys" (defArgs s_many_keys) (defBody s_many_keys) (defScope s_many_keys) [] [] (He.ga K "many_keys") d11 := F11
  obtain ⟨d12, F12⟩ := D.def_ 12 (d := mkD "how_many_worlds" s_how_many_worlds) rfl
  have F12 : FunD K "how_many_worlds" "how_many_worlds" (defArgs s_how_many_worlds) (defBody s_how_many_worlds) (defScope s_how_many_worlds) [] [] (He.ga K "how_many_worlds") d12 := F12
  obtain ⟨d13, F13⟩ := D.def_ 13 (d := mkD "letters_of" s_letters_of) rfl
  have F13 : FunD K "letters_of" "letters_of" (defArgs s_letters_of) (defBody s_letters_of) (defScope s_letters_of) [] [] (He.ga K "letters_of") d13 := F13
  obtain ⟨d14, F14⟩ := D.def_ 14 (d := mkD "tuples_of" s_tuples_of) rfl
  have F14 : FunD K "tuples_of" "tuples_of" (defArgs s_tuples_of) (defBody s_tuples_of) (defScope s_tuples_of) [] [] (He.ga K "tuples_of") d14 := F14
  obtain ⟨d15, F15⟩ := D.def_ 15 (d := mkD "keys_of" s_keys_of) rfl
  have F15 : FunD K "keys_of" "keys_of" (defArgs s_keys_of) (defBody s_keys_of) (defScope s_keys_of) [] [] (He.ga K "keys_of") d15 := F15
  obtain ⟨d16, F16⟩ := D.def_ 16 (d := mkD "tables_of" s_tables_of) rfl
  have F16 : FunD K "tables_of" "tables_of" (defArgs s_tables_of) (defBody s_tables_of) (defScope s_tables_of) [] [] (He.ga K "tables_of") d16 := F16
  obtain ⟨d17, F17⟩ := D.def_ 17 (d := mkD "functions_of" s_functions_of) rfl
  have F17 : FunD K "functions_of" "functions_of" (defArgs s_functions_of) (defBody s_functions_of) (defScope s_functions_of) [] [] (He.ga K "functions_of") d17 := F17
  obtain ⟨d18, F18⟩ := D.def_ 18 (d := mkD "small_worlds" s_small_worlds) rfl
  have F18 : FunD K "small_worlds" "small_worlds" (defArgs s_small_worlds) (defBody s_small_worlds) (defScope s_small_worlds) [] [] (He.ga K "small_worlds") d18 := F18
  obtain ⟨d19, F19⟩ := D.def_ 19 (d := mkD "law" s_law) rfl
  have F19 : FunD K "law" "law" (defArgs s_law) (defBody s_law) (defScope s_law) [] [] (He.ga K "law") d19 := F19
  obtain ⟨t0, ht0⟩ := He.int_ok X G (D.fact 35 (f := .int "MOST_ANYS" 12) rfl)
  obtain ⟨t1, ht1⟩ := He.int_ok X G (D.fact 36 (f := .int "MOST_WORLDS" 5000) rfl)
  obtain ⟨t2, ht2⟩ := He.int_ok X G (D.fact 37 (f := .int "MOST_WORTHS" 6) rfl)
  obtain ⟨xT, yT⟩ := saysX (P := prg) c 0 (d := iTooLarge) rfl
  refine ⟨{
    f_law_bag := He.ga K "_law_bag"
    fd_law_bag := d0
    U_law_bag := funOf F0
    g_law_bag := He.glo_ok X G (D.fact 0 (f := .glo "_law_bag") rfl)
    k_law_bag := F0.kp
    b_law_bag := FunD.bindsN F0 fun _ _ _ _ _ _ us hl => match us, hl with | [_], _ => rfl
    f_law_power := He.ga K "_law_power"
    fd_law_power := d1
    U_law_power := funOf F1
    g_law_power := He.glo_ok X G (D.fact 1 (f := .glo "_law_power") rfl)
    k_law_power := F1.kp
    b_law_power := FunD.bindsN F1 fun _ _ _ _ _ _ us hl => match us, hl with | [_, _], _ => rfl
    f_law_tuples := He.ga K "_law_tuples"
    fd_law_tuples := d2
    U_law_tuples := funOf F2
    g_law_tuples := He.glo_ok X G (D.fact 2 (f := .glo "_law_tuples") rfl)
    k_law_tuples := F2.kp
    b_law_tuples := FunD.bindsN F2 fun _ _ _ _ _ _ us hl => match us, hl with | [_, _], _ => rfl
    f_law_count := He.ga K "_law_count"
    fd_law_count := d3
    U_law_count := funOf F3
    g_law_count := He.glo_ok X G (D.fact 3 (f := .glo "_law_count") rfl)
    k_law_count := F3.kp
    b_law_count := FunD.bindsN F3 fun _ _ _ _ _ _ us hl => match us, hl with | [_, _, _], _ => rfl
    f_law_take := He.ga K "_law_take"
    fd_law_take := d4
    U_law_take := funOf F4
    g_law_take := He.glo_ok X G (D.fact 4 (f := .glo "_law_take") rfl)
    k_law_take := F4.kp
    b_law_take := FunD.bindsN F4 fun _ _ _ _ _ _ us hl => match us, hl with | [_, _], _ => rfl
    f_law_alike := He.ga K "_law_alike"
    fd_law_alike := d5
    U_law_alike := funOf F5
    g_law_alike := He.glo_ok X G (D.fact 5 (f := .glo "_law_alike") rfl)
    k_law_alike := F5.kp
    b_law_alike := FunD.bindsN F5 fun _ _ _ _ _ _ us hl => match us, hl with | [_, _], _ => rfl
    f_law_functions := He.ga K "_law_functions"
    fd_law_functions := d6
    U_law_functions := funOf F6
    g_law_functions := He.glo_ok X G (D.fact 6 (f := .glo "_law_functions") rfl)
    k_law_functions := F6.kp
    b_law_functions := FunD.bindsN F6 fun _ _ _ _ _ _ us hl => match us, hl with | [_, _], _ => rfl
    f_is_number := He.ga K "is_number"
    fd_is_number := d7
    U_is_number := funOf F7
    g_is_number := He.glo_ok X G (D.fact 7 (f := .glo "is_number") rfl)
    k_is_number := F7.kp
    b_is_number := FunD.bindsN F7 fun _ _ _ _ _ _ us hl => match us, hl with | [_], _ => rfl
    f_is_index := He.ga K "is_index"
    fd_is_index := d8
    U_is_index := funOf F8
    g_is_index := He.glo_ok X G (D.fact 8 (f := .glo "is_index") rfl)
    k_is_index := F8.kp
    b_is_index := FunD.bindsN F8 fun _ _ _ _ _ _ us hl => match us, hl with | [_], _ => rfl
    f_check_numbers := He.ga K "check_numbers"
    fd_check_numbers := d9
    U_check_numbers := funOf F9
    g_check_numbers := He.glo_ok X G (D.fact 9 (f := .glo "check_numbers") rfl)
    k_check_numbers := F9.kp
    b_check_numbers := FunD.bindsN F9 fun _ _ _ _ _ _ us hl => match us, hl with | [_, _], _ => rfl
    f_many_tuples := He.ga K "many_tuples"
    fd_many_tuples := d10
    U_many_tuples := funOf F10
    g_many_tuples := He.glo_ok X G (D.fact 10 (f := .glo "many_tuples") rfl)
    k_many_tuples := F10.kp
    b_many_tuples := FunD.bindsN F10 fun _ _ _ _ _ _ us hl => match us, hl with | [_, _], _ => rfl
    f_many_keys := He.ga K "many_keys"
    fd_many_keys := d11
    U_many_keys := funOf F11
    g_many_keys := He.glo_ok X G (D.fact 11 (f := .glo "many_keys") rfl)
    k_many_keys := F11.kp
    b_many_keys := FunD.bindsN F11 fun _ _ _ _ _ _ us hl => match us, hl with | [_, _], _ => rfl
    f_how_many_worlds := He.ga K "how_many_worlds"
    fd_how_many_worlds := d12
    U_how_many_worlds := funOf F12
    g_how_many_worlds := He.glo_ok X G (D.fact 12 (f := .glo "how_many_worlds") rfl)
    k_how_many_worlds := F12.kp
    b_how_many_worlds := FunD.bindsN F12 fun _ _ _ _ _ _ us hl => match us, hl with | [_, _, _], _ => rfl
    f_letters_of := He.ga K "letters_of"
    fd_letters_of := d13
    U_letters_of := funOf F13
    g_letters_of := He.glo_ok X G (D.fact 13 (f := .glo "letters_of") rfl)
    k_letters_of := F13.kp
    b_letters_of := FunD.bindsN F13 fun _ _ _ _ _ _ us hl => match us, hl with | [_, _], _ => rfl
    f_tuples_of := He.ga K "tuples_of"
    fd_tuples_of := d14
    U_tuples_of := funOf F14
    g_tuples_of := He.glo_ok X G (D.fact 14 (f := .glo "tuples_of") rfl)
    k_tuples_of := F14.kp
    b_tuples_of := FunD.bindsN F14 fun _ _ _ _ _ _ us hl => match us, hl with | [_, _], _ => rfl
    f_keys_of := He.ga K "keys_of"
    fd_keys_of := d15
    U_keys_of := funOf F15
    g_keys_of := He.glo_ok X G (D.fact 15 (f := .glo "keys_of") rfl)
    k_keys_of := F15.kp
    b_keys_of := FunD.bindsN F15 fun _ _ _ _ _ _ us hl => match us, hl with | [_, _], _ => rfl
    f_tables_of := He.ga K "tables_of"
    fd_tables_of := d16
    U_tables_of := funOf F16
    g_tables_of := He.glo_ok X G (D.fact 16 (f := .glo "tables_of") rfl)
    k_tables_of := F16.kp
    b_tables_of := FunD.bindsN F16 fun _ _ _ _ _ _ us hl => match us, hl with | [_, _], _ => rfl
    f_functions_of := He.ga K "functions_of"
    fd_functions_of := d17
    U_functions_of := funOf F17
    g_functions_of := He.glo_ok X G (D.fact 17 (f := .glo "functions_of") rfl)
    k_functions_of := F17.kp
    b_functions_of := FunD.bindsN F17 fun _ _ _ _ _ _ us hl => match us, hl with | [_, _], _ => rfl
    f_small_worlds := He.ga K "small_worlds"
    fd_small_worlds := d18
    U_small_worlds := funOf F18
    g_small_worlds := He.glo_ok X G (D.fact 18 (f := .glo "small_worlds") rfl)
    k_small_worlds := F18.kp
    b_small_worlds := FunD.bindsN F18 fun _ _ _ _ _ _ us hl => match us, hl with | [_, _, _], _ => rfl
    f_law := He.ga K "law"
    fd_law := d19
    U_law := funOf F19
    g_law := He.glo_ok X G (D.fact 19 (f := .glo "law") rfl)
    k_law := F19.kp
    b_law := FunD.bindsN F19 fun _ _ _ _ _ _ us hl => match us, hl with | [_], _ => rfl
    n_len := He.free_ok X G (D.fact 21 (f := .free "len") rfl)
    n_int := He.free_ok X G (D.fact 22 (f := .free "int") rfl)
    n_abs := He.free_ok X G (D.fact 23 (f := .free "abs") rfl)
    n_tuple := He.free_ok X G (D.fact 24 (f := .free "tuple") rfl)
    n_list := He.free_ok X G (D.fact 25 (f := .free "list") rfl)
    n_sorted := He.free_ok X G (D.fact 26 (f := .free "sorted") rfl)
    n_repr := He.free_ok X G (D.fact 27 (f := .free "repr") rfl)
    n_max := He.free_ok X G (D.fact 28 (f := .free "max") rfl)
    n_isinstance := He.free_ok X G (D.fact 29 (f := .free "isinstance") rfl)
    n_range := He.free_ok X G (D.fact 30 (f := .free "range") rfl)
    n_zip := He.free_ok X G (D.fact 31 (f := .free "zip") rfl)
    n_set := He.free_ok X G (D.fact 32 (f := .free "set") rfl)
    n_bool := He.free_ok X G (D.fact 33 (f := .free "bool") rfl)
    n_super := He.free_ok X G (D.fact 34 (f := .free "super") rfl)
    t_MOST_ANYS := t0
    i_MOST_ANYS := ht0
    t_MOST_WORLDS := t1
    i_MOST_WORLDS := ht1
    t_MOST_WORTHS := t2
    i_MOST_WORTHS := ht2
    c_TooLarge := He.ga K "TooLarge"
    j_TooLarge := iTooLarge.at_ K
    g_TooLarge := He.glo_ok X G (D.fact 20 (f := .glo "TooLarge") rfl)
    x_TooLarge := xT
    y_TooLarge := yT
    e_TooLarge := He.exm_ok (D.fact 38 (f := .exm "TooLarge" "TooLarge" true) rfl)
    z_TooLarge_what := He.noat_ok (D.fact 39 (f := .noat "TooLarge" "what") rfl)
    z_TooLarge_limit := He.noat_ok (D.fact 40 (f := .noat "TooLarge" "limit") rfl) }, rfl, fun s v => ?_⟩
  exact FunD.bindsA (ps := ["script"]) F19 (fun _ _ _ _ _ _ us hl => match us, hl with | [_], _ => rfl) s [v] rfl
end Pu
open PySem PySem.W PySem.Calls PyProof.Rows
theorem PySem.Challenge.cw_heldterms_k69_small_worlds_holds : PySem.Challenge.rw_heldterms_k69_small_worlds.Holds := by
  w_on; o_law
  refine HandSHeadRun.head_any (r := OpenLaw.row PySem.Challenge.rw_heldterms_k69_small_worlds) (q := view (OpenLaw.row PySem.Challenge.rw_heldterms_k69_small_worlds).prog [30]) (H := Pu.hkT) (ob := Pu.obT) (M := 3000) (loose := Pu.looseT) (d := HandSHeadRun.topDef (OpenLaw.row PySem.Challenge.rw_heldterms_k69_small_worlds).prog 30) (kwd := []) Pu.obT_eq
    (by kernel_rfl) (fun s => by kernel_rfl) Pu.runT (by kernel_rfl) (by kernel_rfl) (by kernel_rfl) (by rfl) (by first | assumption | decide +kernel) (by decide +kernel) ⟨rfl, rfl, rfl, rfl, rfl, by decide +kernel⟩ ?hw ?hc
  case hw => w_witness2
  case hc =>
    refine Pu.walkG (l := PySem.Challenge.rw_heldterms_k69_small_worlds) (n := 63) (k := 6) (x := "script") rfl (by decide) (by kernel_rfl) ⟨rfl, by decide, by decide⟩ ?F
    intro w mg fa h Y G hmg0
    obtain ⟨K, KX, c⟩ := Y; have hmg : mg ("law" : PySem.Str) = some (.ref fa) := by
      have e : (HandSHeadRun.topDef (OpenLaw.row PySem.Challenge.rw_heldterms_k69_small_worlds).prog 30).name = ("law" : PySem.Str) := by kernel_rfl
      rw [← e]
      exact hmg0
    obtain ⟨M, hM, hb⟩ := Pu.mdT KX G c
    have e := hmg.symm.trans M.g_law
    cases e
    exact ⟨K, M.fd_law, KX, hb, fun base _ _ => Pu.d_law M Pu.hf_law⟩
