import PyProof.Rows.All
import Wide.All
import OpenK.AllK
import Wide.FinOn
import HandS.Lambda
import HandS.HeadHook4
import HandS.ForMost
import HandS.Exc
import HandS.ExcOwn
import HandS.TryOnly
import HandS.WordsExc
import HandS.TupAny
import HandS.Conv
import KE.DataEq
import KE.DataCmp
import KE.DataIsa
import KE.DataAny
import KE.SortData
import KE.DataMinMax
import HandS.Wide
import HandS.Zip
import HandS.IsInst
import PyProof.ReprRoads
import HandS.RaiseMore
import KE.GoesZip
import KE.GoesMore
import KE.SortCalls
import HandS.SetFor
import PyProof.TupleOfSeq
import KE.KExcSuper
import HandS.ExcInit
import HandS.HotCalls
import HandS.ExcField
import HandS.Ends
import HandS.HeadEnd
import KE.KStateDown
import Lean
import HandS.Defaults
import HandS.Head0
import HandS.Head1
import HandS.Head2
import HandS.HeadHook1
import HandS.HeadHook2
import PyProof.Rows.RegFStrParts
import HandS.Dict
import HandS.DictComp
import HandS.Small
import HandS.TupMul
import HandS.Style
import HandS.TryMany
import PyProof.EnumMake
import PyProof.Draws
import HandS.More
import HandS.HeadHook3
import Wide.Once
import PySem.Challenge.RW_heldterms_k03_places_and_what_comes_next
set_option Elab.async false
set_option linter.all false
set_option maxRecDepth 100000
set_option maxHeartbeats 0
/-! Pu0: which defs make lambdas (def, the lambda's qualified name); this text alone changes from law to law. -/
namespace Pu
def lamOf : List (PySem.Str × PySem.Str) := []
/-- the tables of code objects that such defs fill: where, the lambdas' name -/
def need (K : PySem.W.Frag) : List (PySem.Addr × PySem.Str) := lamOf.map fun x => ((He.cT K (x.1, none)).2, x.2)
end Pu
/-! Pu1: data on the abstract heap, the state of a def's frame, what an expression means. -/
namespace Pu
open PySem PySem.Spec PyProof.Rows L2
abbrev D := PyData
abbrev St := L2.St
/-- the keys that dicts have here -/
def keyD : D → Option Key
  | .int i => some (.inl i)
  | .str x => some (.inr x)
  | _ => none
mutual
/-- v stands for d on the heap H -/
def Rp (K : PySem.W.Frag) (H : Hp) : D → V → Prop
  | .none, v => v = .non
  | .bool b, v => v = .bl b
  | .int i, v => v = .int i
  | .str x, v => v = .str x
  | .list ds, v => ∃ a vs, v = .ref a ∧ SqL K H a vs ∧ RpL K H ds vs
  | .tuple ds, v => ∃ a vs, v = .ref a ∧ SqT K H a vs ∧ RpL K H ds vs
  | .dict kvs, v => ∃ a ws, v = .ref a ∧ H a = some (.dK ws) ∧ RpK K H kvs ws
def RpL (K : PySem.W.Frag) (H : Hp) : List D → List V → Prop
  | [], vs => vs = []
  | d :: ds, vs => ∃ v r, vs = v :: r ∧ Rp K H d v ∧ RpL K H ds r
def RpK (K : PySem.W.Frag) (H : Hp) : List (D × D) → List (Key × V) → Prop
  | [], ws => ws = []
  | (k, d) :: r, ws => ∃ kk v t, ws = (kk, v) :: t ∧ keyD k = some kk ∧ Rp K H d v ∧ RpK K H r t
end
theorem Same.sqL {K : PySem.W.Frag} {H H' : Hp} {a : Addr} {xs : List V} (e : Same H H') (h : SqL K H a xs) : SqL K H' a xs := by
  (rcases h with (h | ⟨o, h⟩) | h)
  · exact .inl (.inl (e _ _ h))
  · (exact .inl (.inr ⟨o, e _ _ h⟩))
  · exact .inr h
theorem Same.sqT {K : PySem.W.Frag} {H H' : Hp} {a : Addr} {xs : List V} (e : Same H H') (h : SqT K H a xs) : SqT K H' a xs := by
  (rcases h with (h | ⟨o, h⟩) | h)
  · exact .inl (.inl (e _ _ h))
  · (exact .inl (.inr ⟨o, e _ _ h⟩))
  · exact .inr h
mutual
theorem Rp.mono {K : PySem.W.Frag} {H H' : Hp} (e : Same H H') : ∀ (d : D) (v : V), Rp K H d v → Rp K H' d v
  | .none, _, h => by simpa only [Rp] using h
  | .bool _, _, h => by simpa only [Rp] using h
  | .int _, _, h => by simpa only [Rp] using h
  | .str _, _, h => by simpa only [Rp] using h
  | .list ds, v, h => by
    simp only [Rp] at h ⊢
    obtain ⟨a, vs, h1, h2, h3⟩ := h
    exact ⟨a, vs, h1, Same.sqL e h2, RpL.mono e ds vs h3⟩
  | .tuple ds, v, h => by
    simp only [Rp] at h ⊢
    obtain ⟨a, vs, h1, h2, h3⟩ := h
    exact ⟨a, vs, h1, Same.sqT e h2, RpL.mono e ds vs h3⟩
  | .dict kvs, v, h => by
    simp only [Rp] at h ⊢
    obtain ⟨a, ws, h1, h2, h3⟩ := h
    exact ⟨a, ws, h1, e _ _ h2, RpK.mono e kvs ws h3⟩
theorem RpL.mono {K : PySem.W.Frag} {H H' : Hp} (e : Same H H') : ∀ (ds : List D) (vs : List V), RpL K H ds vs → RpL K H' ds vs
  | [], _, h => by simpa only [RpL] using h
  | d :: ds, vs, h => by
    simp only [RpL] at h ⊢
    obtain ⟨v, r, h1, h2, h3⟩ := h
    exact ⟨v, r, h1, Rp.mono e d v h2, RpL.mono e ds r h3⟩
theorem RpK.mono {K : PySem.W.Frag} {H H' : Hp} (e : Same H H') : ∀ (kvs : List (D × D)) (ws : List (Key × V)), RpK K H kvs ws → RpK K H' kvs ws
  | [], _, h => by simpa only [RpK] using h
  | (k, d) :: r, ws, h => by
    simp only [RpK] at h ⊢
    obtain ⟨kk, v, t, h1, h2, h3, h4⟩ := h
    exact ⟨kk, v, t, h1, h2, Rp.mono e d v h3, RpK.mono e r t h4⟩
end
section
variable {K : PySem.W.Frag} {H : Hp}
theorem RpL.nil : RpL K H [] [] := by simp only [RpL]
theorem RpL.cons {d : D} {ds : List D} {v : V} {vs : List V} (h : Rp K H d v) (r : RpL K H ds vs) : RpL K H (d :: ds) (v :: vs) := by
  simp only [RpL]
  exact ⟨v, vs, rfl, h, r⟩
theorem RpL.cons_inv {d : D} {ds : List D} {vs : List V} (h : RpL K H (d :: ds) vs) : ∃ v r, vs = v :: r ∧ Rp K H d v ∧ RpL K H ds r := by
  simpa only [RpL] using h
theorem RpL.nil_inv {vs : List V} (h : RpL K H [] vs) : vs = [] := by
  simpa only [RpL] using h
theorem RpL.length : ∀ {ds : List D} {vs : List V}, RpL K H ds vs → vs.length = ds.length
  | [], vs, h => by rw [h.nil_inv]; rfl
  | d :: ds, vs, h => by
    obtain ⟨v, r, rfl, _, h2⟩ := h.cons_inv
    rw [List.length_cons, List.length_cons, RpL.length h2]
theorem RpL.append : ∀ {ds es : List D} {vs ws : List V}, RpL K H ds vs → RpL K H es ws → RpL K H (ds ++ es) (vs ++ ws)
  | [], es, vs, ws, h, k => by rw [h.nil_inv]; exact k
  | d :: ds, es, vs, ws, h, k => by
    obtain ⟨v, r, rfl, h1, h2⟩ := h.cons_inv
    exact RpL.cons h1 (RpL.append h2 k)
theorem RpL.get : ∀ {ds : List D} {vs : List V} {i : Nat} {d : D}, RpL K H ds vs → ds[i]? = some d → ∃ v, vs[i]? = some v ∧ Rp K H d v
  | [], _, _, _, _, e => by simp at e
  | d :: ds, vs, 0, d', h, e => by
    obtain ⟨v, r, rfl, h1, h2⟩ := h.cons_inv
    simp at e; subst e
    exact ⟨v, rfl, h1⟩
  | d :: ds, vs, i + 1, d', h, e => by
    obtain ⟨v, r, rfl, h1, h2⟩ := h.cons_inv
    obtain ⟨w, e1, e2⟩ := RpL.get (i := i) h2 (by simpa using e)
    exact ⟨w, by simpa using e1, e2⟩
theorem RpL.take : ∀ {ds : List D} {vs : List V} (n : Nat), RpL K H ds vs → RpL K H (ds.take n) (vs.take n)
  | _, _, 0, _ => by simpa using RpL.nil
  | [], vs, n + 1, h => by rw [h.nil_inv]; exact RpL.nil
  | d :: ds, vs, n + 1, h => by
    obtain ⟨v, r, rfl, h1, h2⟩ := h.cons_inv
    exact RpL.cons h1 (RpL.take n h2)
theorem RpL.drop : ∀ {ds : List D} {vs : List V} (n : Nat), RpL K H ds vs → RpL K H (ds.drop n) (vs.drop n)
  | _, _, 0, h => by simpa using h
  | [], vs, n + 1, h => by rw [h.nil_inv]; exact RpL.nil
  | d :: ds, vs, n + 1, h => by
    obtain ⟨v, r, rfl, h1, h2⟩ := h.cons_inv
    exact RpL.drop n h2
theorem RpL.reverse : ∀ {ds : List D} {vs : List V}, RpL K H ds vs → RpL K H ds.reverse vs.reverse
  | [], vs, h => by rw [h.nil_inv]; exact RpL.nil
  | d :: ds, vs, h => by
    obtain ⟨v, r, rfl, h1, h2⟩ := h.cons_inv
    (rw [List.reverse_cons, List.reverse_cons])
    exact RpL.append (RpL.reverse h2) (RpL.cons h1 RpL.nil)
theorem RpL.set : ∀ {ds : List D} {vs : List V} {d : D} {v : V} (i : Nat), RpL K H ds vs → Rp K H d v → RpL K H (ds.set i d) (vs.set i v)
  | [], vs, d, v, i, h, k => by rw [h.nil_inv]; exact RpL.nil
  | d' :: ds, vs, d, v, 0, h, k => by
    obtain ⟨w, r, rfl, h1, h2⟩ := h.cons_inv
    exact RpL.cons k h2
  | d' :: ds, vs, d, v, i + 1, h, k => by
    obtain ⟨w, r, rfl, h1, h2⟩ := h.cons_inv
    exact RpL.cons h1 (RpL.set i h2 k)
theorem RpL.ints : ∀ (ns : List Int), RpL K H (ns.map PyData.int) (ns.map V.int)
  | [] => RpL.nil
  | n :: ns => RpL.cons (by simp only [Rp]) (RpL.ints ns)
end
/-! ### marks: the n-th cell of the store lies here -/
def mk (n : Nat) : HO := .rng n (-1)
def IsMk (o : HO) : Prop := ∃ n, o = mk n
theorem mk_inj {n m : Nat} (h : mk n = mk m) : n = m := by
  unfold mk at h
  injection h with h1 _
  omega
/-- what stands in Hf stands in H, marks aside -/
def Sub (Hf H : Hp) : Prop := ∀ a o, Hf a = some o → IsMk o ∨ H a = some o
section
variable {K : PySem.W.Frag} {Hf H H' : Hp}
theorem Sub.at {a : Addr} {o : HO} (e : Sub Hf H) (h : Hf a = some o) (n : ¬ IsMk o := by rintro ⟨_, z⟩; cases z) : H a = some o := (e a o h).resolve_left n
theorem Sub.same (e : Sub Hf H) (k : Same H H') : Sub Hf H' := fun a o h => (e a o h).imp_right fun h => k a o h
theorem Sub.pre {Hf' : Hp} (s : Sub Hf' H) (e : Same Hf Hf') : Sub Hf H := fun a o h => s a o (e a o h)
theorem Same.sub (e : Same Hf H) : Sub Hf H := fun a o h => .inr (e a o h)
theorem Sub.sqL {a : Addr} {xs : List V} (e : Sub Hf H) (h : SqL K Hf a xs) : SqL K H a xs := by
  (rcases h with (h | ⟨o, h⟩) | h)
  · exact .inl (.inl (e.at h))
  · exact .inl (.inr ⟨o, e.at h⟩)
  · exact .inr h
theorem Sub.sqT {a : Addr} {xs : List V} (e : Sub Hf H) (h : SqT K Hf a xs) : SqT K H a xs := by
  (rcases h with (h | ⟨o, h⟩) | h)
  · exact .inl (.inl (e.at h))
  · exact .inl (.inr ⟨o, e.at h⟩)
  · exact .inr h
end
mutual
theorem Rp.sub {K : PySem.W.Frag} {H H' : Hp} (e : Sub H H') : ∀ (d : D) (v : V), Rp K H d v → Rp K H' d v
  | .none, _, h => by simpa only [Rp] using h
  | .bool b, _, h => by simpa only [Rp] using h
  | .int i, _, h => by simpa only [Rp] using h
  | .str x, _, h => by simpa only [Rp] using h
  | .list ds, v, h => by
    simp only [Rp] at h ⊢
    obtain ⟨a, vs, h1, h2, h3⟩ := h
    exact ⟨a, vs, h1, e.sqL h2, RpL.sub e ds vs h3⟩
  | .tuple ds, v, h => by
    simp only [Rp] at h ⊢
    obtain ⟨a, vs, h1, h2, h3⟩ := h
    exact ⟨a, vs, h1, e.sqT h2, RpL.sub e ds vs h3⟩
  | .dict kvs, v, h => by
    simp only [Rp] at h ⊢
    obtain ⟨a, ws, h1, h2, h3⟩ := h
    exact ⟨a, ws, h1, e.at h2, RpK.sub e kvs ws h3⟩
theorem RpL.sub {K : PySem.W.Frag} {H H' : Hp} (e : Sub H H') : ∀ (ds : List D) (vs : List V), RpL K H ds vs → RpL K H' ds vs
  | [], _, h => by simpa only [RpL] using h
  | d :: ds, vs, h => by
    simp only [RpL] at h ⊢
    obtain ⟨v, r, h1, h2, h3⟩ := h
    exact ⟨v, r, h1, Rp.sub e d v h2, RpL.sub e ds r h3⟩
theorem RpK.sub {K : PySem.W.Frag} {H H' : Hp} (e : Sub H H') : ∀ (kvs : List (D × D)) (ws : List (Key × V)), RpK K H kvs ws → RpK K H' kvs ws
  | [], _, h => by simpa only [RpK] using h
  | (k, d) :: r, ws, h => by
    simp only [RpK] at h ⊢
    obtain ⟨kk, v, t, h1, h2, h3, h4⟩ := h
    exact ⟨kk, v, t, h1, h2, Rp.sub e d v h3, RpK.sub e r t h4⟩
end
/-! ### the state -/
/-- what a field holds: data, or a cell of the store -/
inductive FV where
  | dat (d : D) | ob (n : Nat)
/-- a cell: an instance with its fields, a list, a dict -/
inductive Cell where
  | ins (C : Str) (fs : List (Str × FV)) | lst (ds : List D) | dct (kvs : List (D × D))
/-- the drawing's bag: its three numbers, its cells; the store -/
structure Bag where
  b0 : Int
  b1 : Int
  b2 : Int
  cs : List Int
  os : List Cell := []
/-- a frame's name: no value; data that nobody changes; a list that this name alone holds; the bag -/
inductive Sl where
  | no | dat (d : D) | own (ds : List D) | bag | ob (n : Nat)
structure S where
  ρ : List Sl
  β : Bag
/-- the bag's own object -/
def BagAt (K : PySem.W.Frag) (Hf H : Hp) (a : Addr) (β : Bag) : Prop :=
  ∃ c, H a = some (.lst [.int β.b0, .int β.b1, .int β.b2, .ref c]) ∧ Rp K Hf (.list (β.cs.map .int)) (.ref c)
/-! ### tables of code objects (here) -/
abbrev NoT (o : HO) : Prop := ∀ ps, o ≠ .tbl ps
abbrev NoC (a : Addr) (o : HO) : Prop := ∀ q, o ≠ LamX.CodeO a q
/-- the tables that lambdas need stand by themselves; callers hold no tables, none is data -/
structure Tbs (K : PySem.W.Frag) (ba : Option Addr) (O Hf H : Hp) : Prop where
  tab : ∀ p ∈ need K, LamX.TabS H p.1 p.2 ∧ Hf p.1 = none ∧ O p.1 = none ∧ ba ≠ some p.1
  hf : ∀ a ps, Hf a ≠ some (.tbl ps)
  ho : ∀ a ps, O a ≠ some (.tbl ps)
section
variable {K : PySem.W.Frag} {ba : Option Addr} {O O' Hf H : Hp} {a : Addr} {o o' u u0 : HO}
theorem tabS_ne {q : Str} (t : LamX.TabS H a q) {b : Addr} (h : H b = some o) (hn : NoT o) : a ≠ b := fun z => by
  obtain ⟨ps, e, _⟩ := t
  rw [z, h] at e
  exact hn ps (Option.some.inj e)
theorem tabS_put {q : Str} {b : Addr} (t : LamX.TabS H a q) (h : H b = some u0) (hn : NoT u0) (hc : NoC b u0) : LamX.TabS (upd H b u) a q := by
  have n := tabS_ne t h hn
  obtain ⟨ps, h1, h2, h3⟩ := t
  refine ⟨ps, by rw [upd_ne n]; exact h1, h2, fun pos cv e => ?_⟩
  obtain ⟨c, e1, e2⟩ := h3 pos cv e
  refine ⟨c, e1, ?_⟩
  have : c ≠ b := fun z => by
    rw [z, h] at e2
    exact hc q (Option.some.inj e2)
  rw [upd_ne this]; exact e2
theorem upd_noT {G : Hp} (h : ∀ a ps, G a ≠ some (.tbl ps)) (hn : NoT o) : ∀ b ps, upd G a o b ≠ some (.tbl ps) := fun b ps e => by
  by_cases z : b = a
  · rw [z, upd_same] at e
    exact hn ps (Option.some.inj e)
  · rw [upd_ne z] at e
    exact h b ps e
theorem Tbs.lock (T : Tbs K ba O Hf H) (h : H a = some o) (hn : NoT o) (hn2 : NoT o') : Tbs K ba O (upd Hf a o') H := ⟨fun p hp => by
  obtain ⟨h1, h2, h3, h4⟩ := T.tab p hp
  exact ⟨h1, by rw [upd_ne (tabS_ne h1 h hn)]; exact h2, h3, h4⟩, upd_noT T.hf hn2, T.ho⟩
theorem Tbs.outer (T : Tbs K ba O Hf H) (h : H a = some o) (hn : NoT o) (hn2 : NoT o') : Tbs K ba (upd O a o') Hf H := ⟨fun p hp => by
  obtain ⟨h1, h2, h3, h4⟩ := T.tab p hp
  exact ⟨h1, h2, by rw [upd_ne (tabS_ne h1 h hn)]; exact h3, h4⟩, T.hf, upd_noT T.ho hn2⟩
theorem Tbs.grow (T : Tbs K ba O Hf H) (h : H a = none) : Tbs K ba O Hf (upd H a o) := ⟨fun p hp => by
  obtain ⟨h1, h2, h3, h4⟩ := T.tab p hp
  exact ⟨h1.ext fun b x e => by rw [upd_ne (ne_of_none e h)]; exact e, h2, h3, h4⟩, T.hf, T.ho⟩
theorem Tbs.put (T : Tbs K ba O Hf H) (h : H a = some u0) (hn0 : NoT u0) (hc : NoC a u0) : Tbs K ba O Hf (upd H a u) := ⟨fun p hp => by
  obtain ⟨h1, h2, h3, h4⟩ := T.tab p hp
  exact ⟨tabS_put h1 h hn0 hc, h2, h3, h4⟩, T.hf, T.ho⟩
theorem Tbs.less (T : Tbs K ba O' Hf H) (e : ∀ a o, O a = some o → O' a = some o) : Tbs K ba O Hf H := ⟨fun p hp => by
  obtain ⟨h1, h2, h3, h4⟩ := T.tab p hp
  refine ⟨h1, h2, ?_, h4⟩
  cases q : O p.1 with
  | none => rfl
  | some o =>
    rw [e _ _ q] at h3
    exact (nomatch h3), T.hf, fun a ps z => T.ho a ps (e _ _ z)⟩
theorem Tbs.newBag (T : Tbs K ba O Hf H) (h : H a = some o) (hn : NoT o) : Tbs K (some a) O Hf H := ⟨fun p hp => by
  obtain ⟨h1, h2, h3, h4⟩ := T.tab p hp
  exact ⟨h1, h2, h3, fun z => tabS_ne h1 h hn (Option.some.inj z).symm⟩, T.hf, T.ho⟩
end
theorem lst_noT {vs : List V} : NoT (.lst vs) := fun ps z => by cases z
theorem lst_noC {a : Addr} {vs : List V} : NoC a (.lst vs) := fun q z => by
  unfold LamX.CodeO at z
  cases z
def FvOk (K : PySem.W.Frag) (Hf : Hp) : FV → V → Prop
  | .dat d, v => Rp K Hf d v
  | .ob n, v => ∃ b, v = .ref b ∧ Hf b = some (mk n)
def FsOk (K : PySem.W.Frag) (Hf : Hp) : List (Str × FV) → List (Str × V) → Prop
  | [], ws => ws = []
  | (f, x) :: r, ws => ∃ v t, ws = (f, v) :: t ∧ FvOk K Hf x v ∧ FsOk K Hf r t
/-- where the classes of own objects lie -/
abbrev ClAt : Type := Str → Addr
def CellAt (K : PySem.W.Frag) (Hf H : Hp) (a : Addr) : Cell → Prop
  | .ins C fs => ∃ dx ws, H a = some (.ins (He.ga K C) dx ws) ∧ FsOk K Hf fs ws
  | .lst ds => ∃ vs, H a = some (.lst vs) ∧ RpL K Hf ds vs
  | .dct kvs => ∃ ws, H a = some (.dK ws) ∧ RpK K Hf kvs ws
/-- the store: each mark tells a cell, each cell one place -/
structure Obs (K : PySem.W.Frag) (Hf H : Hp) (os : List Cell) : Prop where
  at_ : ∀ a n, Hf a = some (mk n) → ∃ c, os[n]? = some c ∧ CellAt K Hf H a c
  one : ∀ a b n, Hf a = some (mk n) → Hf b = some (mk n) → a = b
section
variable {K : PySem.W.Frag} {Hf H : Hp} {os : List Cell} {a p : Addr} {o : HO}
theorem FvOk.mono {Hf' : Hp} (e : Same Hf Hf') : ∀ {x : FV} {v : V}, FvOk K Hf x v → FvOk K Hf' x v
  | .dat d, v, h => Rp.mono e d v h
  | .ob n, v, ⟨b, h1, h2⟩ => ⟨b, h1, e _ _ h2⟩
theorem FsOk.mono {Hf' : Hp} (e : Same Hf Hf') : ∀ {fs : List (Str × FV)} {ws : List (Str × V)}, FsOk K Hf fs ws → FsOk K Hf' fs ws
  | [], _, h => h
  | (_, _) :: _, _, ⟨v, t, h1, h2, h3⟩ => ⟨v, t, h1, h2.mono e, FsOk.mono e h3⟩
theorem CellAt.mono {Hf' : Hp} (e : Same Hf Hf') {c : Cell} (h : CellAt K Hf H a c) : CellAt K Hf' H a c := by
  cases c with
  | ins C fs => obtain ⟨dx, ws, h1, h2⟩ := h; exact ⟨dx, ws, h1, h2.mono e⟩
  | lst ds => obtain ⟨vs, h1, h2⟩ := h; exact ⟨vs, h1, RpL.mono e _ _ h2⟩
  | dct kvs => obtain ⟨ws, h1, h2⟩ := h; exact ⟨ws, h1, RpK.mono e _ _ h2⟩
theorem CellAt.here {c : Cell} (h : CellAt K Hf H a c) : ∃ o, H a = some o ∧ NoT o := by
  cases c with
  | ins C fs => obtain ⟨dx, ws, h1, h2⟩ := h; exact ⟨_, h1, fun ps z => by cases z⟩
  | lst ds => obtain ⟨vs, h1, h2⟩ := h; exact ⟨_, h1, fun ps z => by cases z⟩
  | dct kvs => obtain ⟨ws, h1, h2⟩ := h; exact ⟨_, h1, fun ps z => by cases z⟩
theorem CellAt.off {c : Cell} (h : CellAt K Hf H a c) (ne : a ≠ p) : CellAt K Hf (upd H p o) a c := by
  cases c with
  | ins C fs => obtain ⟨dx, ws, h1, h2⟩ := h; exact ⟨dx, ws, by rw [upd_ne ne]; exact h1, h2⟩
  | lst ds => obtain ⟨vs, h1, h2⟩ := h; exact ⟨vs, by rw [upd_ne ne]; exact h1, h2⟩
  | dct kvs => obtain ⟨ws, h1, h2⟩ := h; exact ⟨ws, by rw [upd_ne ne]; exact h1, h2⟩
/-- something that is no mark is frozen -/
theorem Obs.lock (R : Obs K Hf H os) (hf : Hf p = none) (n : ¬ IsMk o) : Obs K (upd Hf p o) H os where
  at_ := fun a k e => by
    have ne : a ≠ p := fun z => by
      rw [z, upd_same] at e
      exact n ⟨k, Option.some.inj e⟩
    rw [upd_ne ne] at e
    obtain ⟨c, h1, h2⟩ := R.at_ a k e
    exact ⟨c, h1, h2.mono fun b x q => by rw [upd_ne (ne_of_none q hf)]; exact q⟩
  one := fun a b k e1 e2 => by
    have na : a ≠ p := fun z => by rw [z, upd_same] at e1; exact n ⟨k, Option.some.inj e1⟩
    have nb : b ≠ p := fun z => by rw [z, upd_same] at e2; exact n ⟨k, Option.some.inj e2⟩
    rw [upd_ne na] at e1
    rw [upd_ne nb] at e2
    exact R.one a b k e1 e2
/-- elsewhere something is written -/
theorem Obs.put (R : Obs K Hf H os) (hf : Hf p = none) : Obs K Hf (upd H p o) os where
  at_ := fun a k e => by
    obtain ⟨c, h1, h2⟩ := R.at_ a k e
    exact ⟨c, h1, h2.off (ne_of_none e hf)⟩
  one := R.one
end
/-- O: what the callers hold for themselves; Hf: what nobody changes, and the marks; the bag; the store -/
structure Reg (K : PySem.W.Frag) (ba : Option Addr) (O Hf H : Hp) (β : Bag) : Prop where
  sub : Sub Hf H
  out : Same O H
  dis : ∀ a, Hf a ≠ none → O a = none
  bag : ∀ a, ba = some a → BagAt K Hf H a β ∧ Hf a = none ∧ O a = none
  tbs : Tbs K ba O Hf H
  obs : Obs K Hf H β.os
def OwnAt (K : PySem.W.Frag) (ba : Option Addr) (O Hf H : Hp) (ds : List D) (a : Addr) : Prop :=
  ∃ vs, H a = some (.lst vs) ∧ Hf a = none ∧ O a = none ∧ ba ≠ some a ∧ RpL K Hf ds vs
def SlOk (K : PySem.W.Frag) (ba : Option Addr) (O Hf H : Hp) : Sl → Option V → Prop
  | .no, _ => True
  | .dat d, x => ∃ v, x = some v ∧ Rp K Hf d v
  | .own ds, x => ∃ a, x = some (.ref a) ∧ OwnAt K ba O Hf H ds a
  | .bag, x => ∃ a, ba = some a ∧ x = some (.ref a)
  | .ob n, x => ∃ a, x = some (.ref a) ∧ Hf a = some (mk n)
structure Rep (K : PySem.W.Frag) (ba : Option Addr) (O Hf H : Hp) (σ : St) (s : S) : Prop where
  reg : Reg K ba O Hf H s.β
  len : s.ρ.length = σ.length
  slot : ∀ (i : Nat) (sl : Sl) (x : Option V), s.ρ[i]? = some sl → σ[i]? = some x → SlOk K ba O Hf H sl x
  uni : ∀ (i j : Nat) (ds es : List D) (x : Option V), i ≠ j → s.ρ[i]? = some (.own ds) → s.ρ[j]? = some (.own es) → σ[i]? = some x → σ[j]? ≠ some x
/-- what an expression gives: data; a list that nobody else holds; the list of a name; the bag -/
inductive Rv where
  | dat (d : D) | fresh (ds : List D) | slot (i : Nat) | bag | ob (n : Nat) | freshK (kvs : List (D × D))
def RvOk (K : PySem.W.Frag) (ba : Option Addr) (O Hf H : Hp) (σ : St) (s : S) : Rv → V → Prop
  | .dat d, v => Rp K Hf d v
  | .fresh ds, v => ∃ a, v = .ref a ∧ OwnAt K ba O Hf H ds a ∧ ∀ (i : Nat) es, s.ρ[i]? = some (.own es) → σ[i]? ≠ some (some (.ref a))
  | .slot i, v => ∃ ds, s.ρ[i]? = some (.own ds) ∧ σ[i]? = some (some v)
  | .bag, v => ∃ a, ba = some a ∧ v = .ref a
  | .ob n, v => ∃ a, v = .ref a ∧ Hf a = some (mk n)
  | .freshK kvs, v => ∃ a ws, v = .ref a ∧ H a = some (.dK ws) ∧ Hf a = none ∧ O a = none ∧ ba ≠ some a ∧ RpK K Hf kvs ws
section
variable {K : PySem.W.Frag} {ba : Option Addr} {O Hf Hf' H H' : Hp} {σ : St} {s : S} {β : Bag} {ds : List D} {a p : Addr} {v : V} {o : HO}
theorem Same.updN {H : Hp} {p : Addr} {o : HO} (h : H p = none) : Same H (upd H p o) := fun b x e => by
  rw [upd_ne (ne_of_none e h)]
  exact e
theorem Same.updF {H Hf : Hp} {p : Addr} {o : HO} (s : Same Hf H) (h : H p = some o) : Same (upd Hf p o) H := fun b x e => by
  by_cases q : b = p
  · subst q
    rw [upd_same] at e
    rw [h]
    exact e
  · rw [upd_ne q] at e
    exact s b x e
theorem Sub.updF {H Hf : Hp} {p : Addr} {o : HO} (s : Sub Hf H) (h : H p = some o) : Sub (upd Hf p o) H := fun b x e => by
  by_cases q : b = p
  · subst q
    rw [upd_same] at e
    rw [h]
    exact .inr e
  · rw [upd_ne q] at e
    exact s b x e
/-- elsewhere something is written -/
theorem Sub.put {H Hf : Hp} {p : Addr} {o : HO} (s : Sub Hf H) (hf : Hf p = none) : Sub Hf (upd H p o) := fun b x e => by
  rw [upd_ne (ne_of_none e hf)]
  exact s b x e
/-- an own list is frozen from now on -/
theorem Reg.freeze (R : Reg K ba O Hf H β) {vs : List V} (h : H a = some (.lst vs)) (hf : Hf a = none) (ho : O a = none) (hb : ba ≠ some a) : Reg K ba O (upd Hf a (.lst vs)) H β where
  sub := Sub.updF R.sub h
  out := R.out
  dis := fun b q => by
    by_cases e : b = a
    · subst e; exact ho
    · rw [upd_ne e] at q
      exact R.dis b q
  bag := fun b e => by
    obtain ⟨⟨c, h1, h2⟩, h3, h4⟩ := R.bag b e
    have ne : b ≠ a := fun z => hb (z ▸ e)
    exact ⟨⟨c, h1, Rp.mono (Same.updN hf) _ _ h2⟩, by rw [upd_ne ne]; exact h3, h4⟩
  tbs := R.tbs.lock h lst_noT lst_noT
  obs := R.obs.lock hf (by rintro ⟨_, z⟩; cases z)
theorem OwnAt.freeze {b : Addr} {es : List D} (h : OwnAt K ba O Hf H es b) (hf : Hf a = none) (ne : b ≠ a) {vs : List V} : OwnAt K ba O (upd Hf a (.lst vs)) H es b := by
  obtain ⟨ws, h1, h2, h3, h4, h5⟩ := h
  exact ⟨ws, h1, by rw [upd_ne ne]; exact h2, h3, h4, RpL.mono (Same.updN hf) _ _ h5⟩
/-- a fresh list becomes data -/
theorem Rep.freeze (R : Rep K ba O Hf H σ s) (h : RvOk K ba O Hf H σ s (.fresh ds) v) : ∃ Hf', Same Hf Hf' ∧ Rep K ba O Hf' H σ s ∧ Rp K Hf' (.list ds) v := by
  obtain ⟨a, rfl, ⟨vs, h1, h2, h3, h4, h5⟩, hu⟩ := h
  refine ⟨upd Hf a (.lst vs), Same.updN h2, ⟨R.reg.freeze h1 h2 h3 h4, R.len, fun i sl x e1 e2 => ?_, R.uni⟩, ?_⟩
  · have q := R.slot i sl x e1 e2
    cases sl with
    | no => trivial
    | dat d => obtain ⟨w, q1, q2⟩ := q; exact ⟨w, q1, Rp.mono (Same.updN h2) _ _ q2⟩
    | own es =>
      obtain ⟨b, q1, q2⟩ := q
      subst q1
      refine ⟨b, rfl, q2.freeze h2 fun z => ?_⟩
      subst z
      exact hu i es e1 e2
    | bag => exact q
    | ob n => obtain ⟨b, q1, q2⟩ := q; exact ⟨b, q1, Same.updN h2 _ _ q2⟩
  · simp only [Rp]
    exact ⟨a, vs, rfl, SqL.of upd_same, RpL.mono (Same.updN h2) _ _ h5⟩
/-- a fresh dict becomes data -/
theorem Rep.freezeK {kvs : List (D × D)} (R : Rep K ba O Hf H σ s) (h : RvOk K ba O Hf H σ s (.freshK kvs) v) : ∃ Hf', Same Hf Hf' ∧ Rep K ba O Hf' H σ s ∧ Rp K Hf' (.dict kvs) v := by
  obtain ⟨a, ws, rfl, h1, h2, h3, h4, h5⟩ := h
  refine ⟨upd Hf a (.dK ws), Same.updN h2, ⟨?_, R.len, fun i sl x e1 e2 => ?_, R.uni⟩, ?_⟩
  · refine ⟨Sub.updF R.reg.sub h1, R.reg.out, fun b q => ?_, fun b e => ?_, R.reg.tbs.lock h1 (fun ps z => by cases z) (fun ps z => by cases z), R.reg.obs.lock h2 (by rintro ⟨_, z⟩; cases z)⟩
    · by_cases e : b = a
      · subst e; exact h3
      · rw [upd_ne e] at q
        exact R.reg.dis b q
    · obtain ⟨⟨c, k1, k2⟩, k3, k4⟩ := R.reg.bag b e
      have ne : b ≠ a := fun z => h4 (z ▸ e)
      exact ⟨⟨c, k1, Rp.mono (Same.updN h2) _ _ k2⟩, by rw [upd_ne ne]; exact k3, k4⟩
  · have q := R.slot i sl x e1 e2
    cases sl with
    | no => trivial
    | dat d => obtain ⟨w, q1, q2⟩ := q; exact ⟨w, q1, Rp.mono (Same.updN h2) _ _ q2⟩
    | own es =>
      obtain ⟨b, q1, vs, k1, k2, k3, k4, k5⟩ := q
      have ne : b ≠ a := fun z => by
        rw [z, h1] at k1
        cases k1
      exact ⟨b, q1, vs, k1, by rw [upd_ne ne]; exact k2, k3, k4, RpL.mono (Same.updN h2) _ _ k5⟩
    | bag => exact q
    | ob n => obtain ⟨b, q1, q2⟩ := q; exact ⟨b, q1, Same.updN h2 _ _ q2⟩
  · simp only [Rp]
    exact ⟨a, ws, rfl, upd_same, RpK.mono (Same.updN h2) _ _ h5⟩
theorem Rep.at {i : Nat} {sl : Sl} (R : Rep K ba O Hf H σ s) (h : s.ρ[i]? = some sl) : ∃ x, σ[i]? = some x ∧ SlOk K ba O Hf H sl x := by
  have hi : i < σ.length := by
    rw [← R.len]
    (exact (List.getElem?_eq_some_iff.mp h).1)
  exact ⟨σ[i], List.getElem?_eq_getElem hi, R.slot i sl _ h (List.getElem?_eq_getElem hi)⟩
/-- a name's own list becomes data -/
theorem Rep.freezeSlot {i : Nat} (R : Rep K ba O Hf H σ s) (h : s.ρ[i]? = some (.own ds)) (hv : σ[i]? = some (some v)) :
    ∃ Hf', Same Hf Hf' ∧ Rep K ba O Hf' H σ { s with ρ := s.ρ.set i (.dat (.list ds)) } ∧ Rp K Hf' (.list ds) v := by
  obtain ⟨a, e, vs, h1, h2, h3, h4, h5⟩ := R.slot i _ _ h hv
  cases e
  have hi : i < s.ρ.length := (List.getElem?_eq_some_iff.mp h).1
  have hr : Rp K (upd Hf a (.lst vs)) (.list ds) (.ref a) := by
    simp only [Rp]
    exact ⟨a, vs, rfl, SqL.of upd_same, RpL.mono (Same.updN h2) _ _ h5⟩
  refine ⟨upd Hf a (.lst vs), Same.updN h2, ⟨R.reg.freeze h1 h2 h3 h4, by rw [List.length_set]; exact R.len, fun j sl x e1 e2 => ?_, fun j k es fs x ne e1 e2 e3 => ?_⟩, hr⟩
  · by_cases ji : i = j
    · subst ji
      rw [List.getElem?_set_self hi] at e1
      cases e1
      rw [hv] at e2
      cases e2
      exact ⟨_, rfl, hr⟩
    · rw [List.getElem?_set_ne ji] at e1
      have q := R.slot j sl x e1 e2
      cases sl with
      | no => trivial
      | dat d => obtain ⟨w, q1, q2⟩ := q; exact ⟨w, q1, Rp.mono (Same.updN h2) _ _ q2⟩
      | own es =>
        obtain ⟨b, q1, q2⟩ := q
        subst q1
        refine ⟨b, rfl, q2.freeze h2 fun z => ?_⟩
        subst z
        exact R.uni i j _ _ _ ji h e1 hv e2
      | bag => exact q
      | ob n => obtain ⟨b, q1, q2⟩ := q; exact ⟨b, q1, Same.updN h2 _ _ q2⟩
  · by_cases ji : i = j
    · subst ji
      rw [List.getElem?_set_self hi] at e1
      cases e1
    · rw [List.getElem?_set_ne ji] at e1
      by_cases ki : i = k
      · subst ki
        rw [List.getElem?_set_self hi] at e2
        cases e2
      · rw [List.getElem?_set_ne ki] at e2
        exact R.uni j k es fs x ne e1 e2 e3
/-- a new object that nobody holds -/
theorem Reg.freeF (R : Reg K ba O Hf H β) (hp : H p = none) : Hf p = none := by
  cases q : Hf p with
  | none => rfl
  | some x =>
    rcases R.sub _ _ q with ⟨n, rfl⟩ | h
    · obtain ⟨c, _, h2⟩ := R.obs.at_ _ _ q
      obtain ⟨o, h3, _⟩ := h2.here
      rw [h3] at hp; cases hp
    · rw [h] at hp; cases hp
theorem Reg.grow (R : Reg K ba O Hf H β) (hp : H p = none) (hn : NoT o := by intro ps z; cases z) : Reg K ba O Hf (upd H p o) β where
  sub := R.sub.put (R.freeF hp)
  out := fun b x e => by rw [upd_ne (ne_of_none (R.out b x e) hp)]; exact R.out b x e
  dis := R.dis
  bag := fun b e => by
    obtain ⟨⟨c, h1, h2⟩, h3, h4⟩ := R.bag b e
    exact ⟨⟨c, by rw [upd_ne (ne_of_none h1 hp)]; exact h1, h2⟩, h3, h4⟩
  tbs := R.tbs.grow hp
  obs := R.obs.put (R.freeF hp)
theorem OwnAt.grow {b : Addr} {es : List D} (h : OwnAt K ba O Hf H es b) (hp : H p = none) : OwnAt K ba O Hf (upd H p o) es b := by
  obtain ⟨ws, h1, h2, h3, h4, h5⟩ := h
  exact ⟨ws, by rw [upd_ne (ne_of_none h1 hp)]; exact h1, h2, h3, h4, h5⟩
theorem SlOk.grow {sl : Sl} {x : Option V} (h : SlOk K ba O Hf H sl x) (hp : H p = none) : SlOk K ba O Hf (upd H p o) sl x := by
  cases sl with
  | no => trivial
  | dat d => exact h
  | own es => obtain ⟨b, q1, q2⟩ := h; exact ⟨b, q1, q2.grow hp⟩
  | bag => exact h
  | ob n => exact h
theorem Rep.grow (R : Rep K ba O Hf H σ s) (hp : H p = none) (hn : NoT o := by intro ps z; cases z) : Rep K ba O Hf (upd H p o) σ s :=
  ⟨R.reg.grow hp hn, R.len, fun i sl x e1 e2 => (R.slot i sl x e1 e2).grow hp, R.uni⟩
theorem Reg.free (R : Reg K ba O Hf H β) (hp : H p = none) : Hf p = none ∧ O p = none ∧ ba ≠ some p := by
  refine ⟨?_, ?_, fun e => ?_⟩
  · exact R.freeF hp
  · cases q : O p with
    | none => rfl
    | some x => rw [R.out _ _ q] at hp; cases hp
  · obtain ⟨⟨c, h1, _⟩, _⟩ := R.bag p e
    rw [h1] at hp; cases hp
/-- any tracked object that is held by nobody is frozen -/
theorem Reg.take (R : Reg K ba O Hf H β) (h : H p = some o) (hf : Hf p = none) (ho : O p = none) (hb : ba ≠ some p) (hn : NoT o := by intro ps z; cases z) (hm : ¬ IsMk o := by rintro ⟨_, z⟩; cases z) : Reg K ba O (upd Hf p o) H β where
  sub := Sub.updF R.sub h
  out := R.out
  dis := fun b q => by
    by_cases e : b = p
    · subst e; exact ho
    · rw [upd_ne e] at q
      exact R.dis b q
  bag := fun b e => by
    obtain ⟨⟨c, h1, h2⟩, h3, h4⟩ := R.bag b e
    have ne : b ≠ p := fun z => hb (z ▸ e)
    exact ⟨⟨c, h1, Rp.mono (Same.updN hf) _ _ h2⟩, by rw [upd_ne ne]; exact h3, h4⟩
  tbs := R.tbs.lock h hn hn
  obs := R.obs.lock hf hm
/-- a new object is laid and frozen -/
theorem Rep.lay (R : Rep K ba O Hf H σ s) (hp : H p = none) (hn : NoT o := by intro ps z; cases z) (hm : ¬ IsMk o := by rintro ⟨_, z⟩; cases z) : Rep K ba O (upd Hf p o) (upd H p o) σ s := by
  obtain ⟨f1, f2, f3⟩ := R.reg.free hp
  have R1 := R.grow (o := o) hp hn
  refine ⟨R1.reg.take upd_same f1 f2 f3 hn hm, R.len, fun i sl x e1 e2 => ?_, R.uni⟩
  have q := R.slot i sl x e1 e2
  cases sl with
  | no => trivial
  | dat d => obtain ⟨w, q1, q2⟩ := q; exact ⟨w, q1, Rp.mono (Same.updN f1) _ _ q2⟩
  | own es =>
    obtain ⟨b, q1, ws, h1, h2, h3, h4, h5⟩ := q
    have ne : b ≠ p := ne_of_none h1 hp
    exact ⟨b, q1, ws, by rw [upd_ne ne]; exact h1, by rw [upd_ne ne]; exact h2, h3, h4, RpL.mono (Same.updN f1) _ _ h5⟩
  | bag => exact q
  | ob n => obtain ⟨b, q1, q2⟩ := q; exact ⟨b, q1, Same.updN f1 _ _ q2⟩
end
/-! ### what an operation hands back -/
inductive Rs where
  | dat (d : D) | fresh (ds : List D) | ob (n : Nat)
def Rs.rv : Rs → Rv
  | .dat d => .dat d
  | .fresh ds => .fresh ds
  | .ob n => .ob n
inductive Got (K : PySem.W.Frag) (Hf H : Hp) : Rs → V → Hp → Prop where
  | old {d : D} {v : V} : Rp K Hf d v → Got K Hf H (.dat d) v H
  | tup {ds : List D} {vs : List V} {p : Addr} : H p = none → RpL K Hf ds vs → Got K Hf H (.dat (.tuple ds)) (.ref p) (upd H p (.tup vs))
  | lst {ds : List D} {vs : List V} {p : Addr} : H p = none → RpL K Hf ds vs → Got K Hf H (.fresh ds) (.ref p) (upd H p (.lst vs))
  | dct {kvs : List (D × D)} {ws : List (Key × V)} {p : Addr} : H p = none → RpK K Hf kvs ws → Got K Hf H (.dat (.dict kvs)) (.ref p) (upd H p (.dK ws))
theorem Rep.got {K : PySem.W.Frag} {ba : Option Addr} {O Hf H H' : Hp} {σ : St} {s : S} {r : Rs} {v : V} (R : Rep K ba O Hf H σ s) (g : Got K Hf H r v H') :
    ∃ Hf', Same Hf Hf' ∧ Rep K ba O Hf' H' σ s ∧ RvOk K ba O Hf' H' σ s r.rv v := by
  cases g with
  | old h => exact ⟨Hf, Same.refl _, R, h⟩
  | @tup ds vs p hp hr =>
    obtain ⟨f1, f2, f3⟩ := R.reg.free hp
    refine ⟨upd Hf p (.tup vs), Same.updN f1, R.lay hp, ?_⟩
    show Rp K _ (.tuple ds) _
    simp only [Rp]
    exact ⟨p, vs, rfl, SqT.of upd_same, RpL.mono (Same.updN f1) _ _ hr⟩
  | @dct kvs ws p hp hr =>
    obtain ⟨f1, f2, f3⟩ := R.reg.free hp
    refine ⟨upd Hf p (.dK ws), Same.updN f1, R.lay hp, ?_⟩
    show Rp K _ (.dict kvs) _
    simp only [Rp]
    exact ⟨p, ws, rfl, upd_same, RpK.mono (Same.updN f1) _ _ hr⟩
  | @lst ds vs p hp hr =>
    obtain ⟨f1, f2, f3⟩ := R.reg.free hp
    refine ⟨Hf, Same.refl _, R.grow hp, p, rfl, ⟨vs, upd_same, f1, f2, f3, hr⟩, fun i es e1 e2 => ?_⟩
    obtain ⟨b, q1, ws, h1, _⟩ := R.slot i _ _ e1 e2
    cases q1
    rw [h1] at hp
    cases hp
/-! ### meanings -/
structure Exn where
  cls : Str
  fs : List (Str × D)
abbrev M (α : Type) := S → Option (S × Except Exn α)
def M.pure {α : Type} (a : α) : M α := fun s => some (s, .ok a)
def M.stuck {α : Type} : M α := fun _ => none
def M.bind {α β : Type} (m : M α) (f : α → M β) : M β := fun s => match m s with
  | none => none
  | some (s', .error x) => some (s', .error x)
  | some (s', .ok a) => f a s'
instance : Monad M where
  pure := M.pure
  bind := M.bind
def M.lift {α : Type} (o : Option α) : M α := fun s => o.map fun a => (s, .ok a)
def Fits {α : Type} (o : Option (S × Except Exn α)) (ok : α → S → Prop) (ex : Exn → S → Prop) : Prop := match o with
  | none => False
  | some (s, .ok a) => ok a s
  | some (s, .error x) => ex x s
theorem Fits.bind {α β : Type} {m : M α} {f : α → M β} {s : S} {ok : β → S → Prop} {ex : Exn → S → Prop} (h : Fits ((M.bind m f) s) ok ex) : Fits (m s) (fun a s' => Fits (f a s') ok ex) ex := by
  unfold M.bind at h
  cases e : m s with
  | none => rw [e] at h; exact h
  | some q =>
    obtain ⟨s', r⟩ := q
    rw [e] at h
    cases r with
    | ok a => exact h
    | error x => exact h
theorem Fits.imp {α : Type} {o : Option (S × Except Exn α)} {ok ok' : α → S → Prop} {ex ex' : Exn → S → Prop} (h : Fits o ok ex) (h1 : ∀ a s, ok a s → ok' a s) (h2 : ∀ x s, ex x s → ex' x s) : Fits o ok' ex' := by
  cases o with
  | none => exact h
  | some q =>
    obtain ⟨s', r⟩ := q
    cases r with
    | ok a => exact h1 _ _ h
    | error x => exact h2 _ _ h
theorem Fits.lift {α : Type} {o : Option α} {s : S} {ok : α → S → Prop} {ex : Exn → S → Prop} (h : Fits (M.lift o s) ok ex) : ∃ a, o = some a ∧ ok a s := by
  cases o with
  | none => exact h.elim
  | some a => exact ⟨a, rfl, h⟩
/-- how an exception lies on the heap: its class, its own dict -/
def ExOk (K : PySem.W.Frag) (mg : Str → Option Value) (Hf H : Hp) (x : Exn) (c : Value) (d : Option Addr) : Prop :=
  mg x.cls = some c ∧ match x.fs with
    | [] => d = none
    | _ => ∃ e fvs, d = some e ∧ H e = some (.xd fvs) ∧ fvs.map (·.1) = x.fs.map (·.1) ∧ RpL K Hf (x.fs.map (·.2)) (fvs.map (·.2))
/-- the reading of an expression's meaning -/
def tM (K : PySem.W.Frag) (mg : Str → Option Value) (E : WX) (m : M Rv) : TE := fun σ H Q => ∃ ba O Hf s, Rep K ba O Hf H σ s ∧
  Fits (m s) (fun r s' => ∀ v H' Hf', Rep K ba O Hf' H' σ s' → Same Hf Hf' → RvOk K ba O Hf' H' σ s' r v → Q v H')
    (fun x s' => ∀ H' Hf' c d, Rep K ba O Hf' H' σ s' → Same Hf Hf' → ExOk K mg Hf' H' x c d → E c d σ H')
theorem PE.conv {X : Cx} {e : Expr} {t t' : TE} (h : PE X e t) (c : ∀ σ H Q, t' σ H Q → t σ H Q) : PE X e t' := ⟨fun pins s σ H Q I q => h.run pins s σ H Q I (c σ H Q q)⟩
theorem PT.conv {X : Cx} {e : Expr} {t t' : TT} (h : PT X e t) (c : ∀ σ H Q, t' σ H Q → t σ H Q) : PT X e t' := ⟨fun pins s σ H Q I q => h.run pins s σ H Q I (c σ H Q q)⟩
theorem PS.conv {X : Cx} {e : Stmt} {t t' : TS} (h : PS X e t) (c : ∀ D σ H, t' D σ H → t D σ H) : PS X e t' := ⟨fun pins s σ H D I q => h.run pins s σ H D I (c D σ H q)⟩
theorem PSs.conv {X : Cx} {e : List Stmt} {t t' : TS} (h : PSs X e t) (c : ∀ D σ H, t' D σ H → t D σ H) : PSs X e t' := ⟨fun pins s σ H D I q => h.run pins s σ H D I (c D σ H q)⟩
end Pu
/-! Pu2: expressions: names, constants, operations, tests. -/
namespace Pu
open PySem PySem.Spec L2
/-! ### what is borrowed, what is kept -/
def settle : Rv → Rv
  | .fresh ds => .dat (.list ds)
  | .freshK kvs => .dat (.dict kvs)
  | r => r
/-- a value that waits while others are reckoned -/
def Late (K : PySem.W.Frag) (ba : Option Addr) (Hf : Hp) (σ : St) : Rv → V → Prop
  | .dat d, v => Rp K Hf d v
  | .fresh _, _ => False
  | .slot i, v => σ[i]? = some (some v)
  | .bag, v => ∃ a, ba = some a ∧ v = .ref a
  | .ob n, v => ∃ a, v = .ref a ∧ Hf a = some (mk n)
  | .freshK _, _ => False
/-- what stands in a cell, as data -/
def cellD : Cell → Option D
  | .lst ds => some (.list ds)
  | .dct kvs => some (.dict kvs)
  | .ins _ _ => none
def peek (r : Rv) : M D := fun s => match r with
  | .dat d => some (s, .ok d)
  | .fresh ds => some (s, .ok (.list ds))
  | .slot i => match s.ρ[i]? with
    | some (.own ds) => some (s, .ok (.list ds))
    | _ => none
  | .bag => none
  | .ob n => ((s.β.os[n]?).bind cellD).map fun d => (s, .ok d)
  | .freshK kvs => some (s, .ok (.dict kvs))
def retain (r : Rv) : M D := fun s => match r with
  | .dat d => some (s, .ok d)
  | .fresh ds => some (s, .ok (.list ds))
  | .slot i => match s.ρ[i]? with
    | some (.own ds) => some ({ s with ρ := s.ρ.set i (.dat (.list ds)) }, .ok (.list ds))
    | _ => none
  | .bag => none
  | .ob _ => none
  | .freshK kvs => some (s, .ok (.dict kvs))
/-- v stands for d now: as data, or as a list that somebody holds alone -/
def BRp (K : PySem.W.Frag) (Hf H : Hp) (d : D) (v : V) : Prop := Rp K Hf d v ∨ (∃ a vs ds, v = .ref a ∧ H a = some (.lst vs) ∧ d = .list ds ∧ RpL K Hf ds vs) ∨ ∃ a ws kvs, v = .ref a ∧ H a = some (.dK ws) ∧ d = .dict kvs ∧ RpK K Hf kvs ws
section
variable {K : PySem.W.Frag} {ba : Option Addr} {O Hf Hf' H H' : Hp} {σ : St} {s s' : S} {d : D} {v : V} {r : Rv}
theorem Rep.settle (R : Rep K ba O Hf H σ s) (h : RvOk K ba O Hf H σ s r v) : ∃ Hf', Same Hf Hf' ∧ Rep K ba O Hf' H σ s ∧ Late K ba Hf' σ (settle r) v := by
  cases r with
  | dat d => exact ⟨Hf, Same.refl _, R, h⟩
  | fresh ds => exact R.freeze h
  | slot i => exact ⟨Hf, Same.refl _, R, h.choose_spec.2⟩
  | bag => exact ⟨Hf, Same.refl _, R, h⟩
  | ob n => exact ⟨Hf, Same.refl _, R, h⟩
  | freshK kvs => exact R.freezeK h
theorem Late.mono (h : Late K ba Hf σ r v) (e : Same Hf Hf') : Late K ba Hf' σ r v := by
  cases r with
  | dat d => exact Rp.mono e _ _ h
  | fresh ds => exact h.elim
  | slot i => exact h
  | bag => exact h
  | ob n => obtain ⟨a, h1, h2⟩ := h; exact ⟨a, h1, e _ _ h2⟩
  | freshK kvs => exact h.elim
theorem peek_ob {n : Nat} {ok : D → S → Prop} {ex : Exn → S → Prop} (R : Rep K ba O Hf H σ s) (h : ∃ a, v = .ref a ∧ Hf a = some (mk n)) (f : Fits (peek (.ob n) s) ok ex) : ∃ d, ok d s ∧ BRp K Hf H d v := by
  obtain ⟨a, rfl, h2⟩ := h
  obtain ⟨c, h3, h4⟩ := R.reg.obs.at_ a n h2
  unfold peek at f
  simp only [h3, Option.bind_some] at f
  cases c with
  | ins C fs => exact f.elim
  | lst ds => obtain ⟨vs, k1, k2⟩ := h4; exact ⟨.list ds, f, .inr (.inl ⟨a, vs, ds, rfl, k1, rfl, k2⟩)⟩
  | dct kvs => obtain ⟨ws, k1, k2⟩ := h4; exact ⟨.dict kvs, f, .inr (.inr ⟨a, ws, kvs, rfl, k1, rfl, k2⟩)⟩
/-- the reckoning of a borrowed value's datum -/
theorem peek_late {ok : D → S → Prop} {ex : Exn → S → Prop} (R : Rep K ba O Hf H σ s) (h : Late K ba Hf σ r v) (f : Fits (peek r s) ok ex) : ∃ d, ok d s ∧ BRp K Hf H d v := by
  cases r with
  | dat d => exact ⟨d, f, .inl h⟩
  | fresh ds => exact h.elim
  | slot i =>
    unfold peek at f
    cases e : s.ρ[i]? with
    | none => simp only [e] at f; exact f.elim
    | some sl =>
      cases sl with
      | own ds =>
        simp only [e] at f
        obtain ⟨a, e1, vs, h1, h2, h3, h4, h5⟩ := R.slot i _ _ e h
        cases e1
        exact ⟨.list ds, f, .inr (.inl ⟨a, vs, ds, rfl, h1, rfl, h5⟩)⟩
      | no => simp only [e] at f; exact f.elim
      | dat d => simp only [e] at f; exact f.elim
      | bag => simp only [e] at f; exact f.elim
      | ob n => simp only [e] at f; exact f.elim
  | bag => exact f.elim
  | ob n => exact peek_ob R h f
  | freshK kvs => exact h.elim
theorem peek_now {ok : D → S → Prop} {ex : Exn → S → Prop} (R : Rep K ba O Hf H σ s) (h : RvOk K ba O Hf H σ s r v) (f : Fits (peek r s) ok ex) : ∃ d, ok d s ∧ BRp K Hf H d v := by
  cases r with
  | dat d => exact ⟨d, f, .inl h⟩
  | fresh ds =>
    obtain ⟨a, rfl, ⟨vs, h1, h2, h3, h4, h5⟩, _⟩ := h
    exact ⟨.list ds, f, .inr (.inl ⟨a, vs, ds, rfl, h1, rfl, h5⟩)⟩
  | slot i => exact peek_late (r := .slot i) R (h.choose_spec.2) f
  | bag => exact f.elim
  | ob n => exact peek_ob R h f
  | freshK kvs =>
    obtain ⟨a, ws, rfl, h1, h2, h3, h4, h5⟩ := h
    exact ⟨.dict kvs, f, .inr (.inr ⟨a, ws, kvs, rfl, h1, rfl, h5⟩)⟩
theorem retain_ok {ok : D → S → Prop} {ex : Exn → S → Prop} (R : Rep K ba O Hf H σ s) (h : RvOk K ba O Hf H σ s r v) (f : Fits (retain r s) ok ex) :
    ∃ d s' Hf', ok d s' ∧ Same Hf Hf' ∧ Rep K ba O Hf' H σ s' ∧ Rp K Hf' d v := by
  cases r with
  | dat d => exact ⟨d, s, Hf, f, Same.refl _, R, h⟩
  | fresh ds =>
    obtain ⟨Hf', e, R', p⟩ := R.freeze h
    exact ⟨.list ds, s, Hf', f, e, R', p⟩
  | slot i =>
    obtain ⟨ds, h1, h2⟩ := h
    unfold retain at f
    simp only [h1] at f
    obtain ⟨Hf', e, R', p⟩ := R.freezeSlot h1 h2
    exact ⟨.list ds, _, Hf', f, e, R', p⟩
  | bag => exact f.elim
  | ob n => exact f.elim
  | freshK kvs =>
    obtain ⟨Hf', e, R', p⟩ := R.freezeK h
    exact ⟨.dict kvs, s, Hf', f, e, R', p⟩
end
/-! ### one step of reading -/
section
variable {K : PySem.W.Frag} {mg : Str → Option Value} {E : WX}
/-- the exceptions' half -/
abbrev ExW (K : PySem.W.Frag) (mg : Str → Option Value) (E : WX) (ba : Option Addr) (O Hf : Hp) (σ : St) : Exn → S → Prop :=
  fun x s' => ∀ H' Hf' c d, Rep K ba O Hf' H' σ s' → Same Hf Hf' → ExOk K mg Hf' H' x c d → E c d σ H'
theorem ExW.mono {ba : Option Addr} {O Hf Hf1 : Hp} {σ : St} (e : Same Hf Hf1) {x : Exn} {s' : S} (h : ExW K mg E ba O Hf σ x s') : ExW K mg E ba O Hf1 σ x s' :=
  fun H' Hf' c d r k ex => h H' Hf' c d r (Same.trans e k) ex
/-- from a bind: the first part's reading -/
theorem tM.bind {m : M Rv} {f : Rv → M Rv} {σ : St} {H : Hp} {Q : VK} {R : V → Hp → Prop}
    (h : tM K mg E (M.bind m f) σ H Q)
    (k : ∀ ba O Hf s r v H1, Rep K ba O Hf H1 σ s → RvOk K ba O Hf H1 σ s r v → Fits (f r s) (fun r s' => ∀ v H' Hf', Rep K ba O Hf' H' σ s' → Same Hf Hf' → RvOk K ba O Hf' H' σ s' r v → Q v H') (ExW K mg E ba O Hf σ) → R v H1) :
    tM K mg E m σ H R := by
  obtain ⟨ba, O, Hf, s, R0, F⟩ := h
  refine ⟨ba, O, Hf, s, R0, F.bind.imp (fun r s' F' v H1 Hf1 R1 e1 ok1 => ?_) fun x s' q => q⟩
  exact k ba O Hf1 s' r v H1 R1 ok1 (F'.imp (fun r2 s2 q v' H' Hf' R' e' ok' => q v' H' Hf' R' (Same.trans e1 e') ok') fun x s2 q => ExW.mono e1 q)
/-- the end, by what an operation hands back -/
theorem got_end {ba : Option Addr} {O Hf H H' : Hp} {σ : St} {s : S} {res : Rs} {v : V} {Q : VK} (R : Rep K ba O Hf H σ s)
    (q : ∀ v H' Hf', Rep K ba O Hf' H' σ s → Same Hf Hf' → RvOk K ba O Hf' H' σ s res.rv v → Q v H') (g : Got K Hf H res v H') : Q v H' := by
  obtain ⟨Hf', e, R', ok⟩ := R.got g
  exact q v H' Hf' R' e ok
end
/-! ### names and constants (here) -/
def mVar (i : Nat) : M Rv := fun s => match s.ρ[i]? with
  | some (.dat d) => some (s, .ok (.dat d))
  | some (.own _) => some (s, .ok (.slot i))
  | some .bag => some (s, .ok .bag)
  | some (.ob n) => some (s, .ok (.ob n))
  | _ => none
def mC (d : D) : M Rv := fun s => some (s, .ok (.dat d))
section
variable {X : Cx} {E : WX}
abbrev EV (X : Cx) (E : WX) (e : Expr) (m : M Rv) : Prop := PE X e (tM X.K X.mg E m)
theorem ev_var {e : Expr} {i : Nat} (h : PE X e (tVar i)) : EV X E e (mVar i) := PE.conv h fun σ H Q q => by
  obtain ⟨ba, O, Hf, s, R, F⟩ := q
  unfold mVar at F
  cases e : s.ρ[i]? with
  | none => simp only [e] at F; exact F.elim
  | some sl =>
    obtain ⟨x, e2, ok⟩ := R.at e
    cases sl with
    | no => simp only [e] at F; exact F.elim
    | dat d =>
      simp only [e] at F
      obtain ⟨v, rfl, p⟩ := ok
      exact ⟨v, e2, F v H Hf R (Same.refl _) p⟩
    | own ds =>
      simp only [e] at F
      obtain ⟨a, rfl, p⟩ := ok
      exact ⟨_, e2, F _ H Hf R (Same.refl _) ⟨ds, e, e2⟩⟩
    | bag =>
      simp only [e] at F
      obtain ⟨a, h1, rfl⟩ := ok
      exact ⟨_, e2, F _ H Hf R (Same.refl _) ⟨a, h1, rfl⟩⟩
    | ob n =>
      simp only [e] at F
      obtain ⟨a, rfl, h1⟩ := ok
      exact ⟨_, e2, F _ H Hf R (Same.refl _) ⟨a, rfl, h1⟩⟩
theorem ev_c {e : Expr} {d : D} {v : V} (h : PE X e (tC v)) (hv : ∀ H, Rp X.K H d v) : EV X E e (mC d) := PE.conv h fun σ H Q q => by
  obtain ⟨ba, O, Hf, s, R, F⟩ := q
  exact F v H Hf R (Same.refl _) (hv Hf)
theorem ev_int {i : Int} {j : Nat} {pos : Pos} : EV X E (.Constant (.int i) j pos) (mC (.int i)) := ev_c pe_int fun _ => by simp only [Rp]
theorem ev_bl {b : Bool} {j : Nat} {pos : Pos} : EV X E (.Constant (.bool b) j pos) (mC (.bool b)) := ev_c pe_bl fun _ => by simp only [Rp]
theorem ev_non {j : Nat} {pos : Pos} : EV X E (.Constant .none j pos) (mC .none) := ev_c pe_non fun _ => by simp only [Rp]
theorem ev_str {x : Str} {j : Nat} {pos : Pos} : EV X E (.Constant (.str x) j pos) (mC (.str x)) := ev_c pe_str fun _ => by simp only [Rp]
theorem ev_gInt {x : Str} {i : Int} {t : Tok} {pos : Pos} (hg : Gl X x) (hm : X.mg x = some (.int i t)) (hd : (x == ("__debug__" : Str)) = false := by decide) : EV X E (.Name x pos) (mC (.int i)) :=
  ev_c (v := .int i) (pe_glob hg hm ⟨_, rfl⟩ hd) fun _ => by simp only [Rp]
theorem ev_gStr {x : Str} {i : Str} {t : Tok} {pos : Pos} (hg : Gl X x) (hm : X.mg x = some (.str i t)) (hd : (x == ("__debug__" : Str)) = false := by decide) : EV X E (.Name x pos) (mC (.str i)) :=
  ev_c (v := .str i) (pe_glob hg hm ⟨_, rfl⟩ hd) fun _ => by simp only [Rp]
end
/-! ### operations -/
/-- a two-place operation on data -/
def Op2 (K : PySem.W.Frag) (r : R2) (f : D → D → Option Rs) : Prop := ∀ (Hf H : Hp) (d1 d2 : D) (x y : V) (res : Rs) (Q : VK), Sub Hf H → BRp K Hf H d1 x → BRp K Hf H d2 y → f d1 d2 = some res →
  (∀ v H', Got K Hf H res v H' → Q v H') → r x y H Q
def Op1 (K : PySem.W.Frag) (r : V → Hp → VK → Prop) (f : D → Option Rs) : Prop := ∀ (Hf H : Hp) (d : D) (x : V) (res : Rs) (Q : VK), Sub Hf H → BRp K Hf H d x → f d = some res → (∀ v H', Got K Hf H res v H' → Q v H') → r x H Q
def mBin (f : D → D → Option Rs) (m1 m2 : M Rv) : M Rv := M.bind m1 fun r1 => M.bind m2 fun r2 => M.bind (peek (settle r1)) fun d1 => M.bind (peek r2) fun d2 => M.bind (M.lift (f d1 d2)) fun r => M.pure r.rv
def mUn (f : D → Option Rs) (m : M Rv) : M Rv := M.bind m fun r => M.bind (peek r) fun d => M.bind (M.lift (f d)) fun r => M.pure r.rv
section
variable {X : Cx} {E : WX} {a b : Expr} {m1 m2 : M Rv}
theorem bin_conv {r : R2} {f : D → D → Option Rs} (hf : Op2 X.K r f) {σ : St} {H : Hp} {Q : VK} (q : tM X.K X.mg E (mBin f m1 m2) σ H Q) : tOp r (tM X.K X.mg E m1) (tM X.K X.mg E m2) σ H Q := by
  refine tM.bind q fun ba O Hf s r1 v1 H1 R1 ok1 F => ?_
  obtain ⟨Hf1, e1, R1', lt⟩ := R1.settle ok1
  refine ⟨ba, O, Hf1, s, R1', F.bind.imp (fun r2 s2 F2 v2 H2 Hf2 R2 e2 ok2 => ?_) fun x s' q => ExW.mono e1 q⟩
  obtain ⟨d1, F3, b1⟩ := peek_late R2 (lt.mono e2) F2.bind
  obtain ⟨d2, F4, b2⟩ := peek_now R2 ok2 F3.bind
  obtain ⟨res, e5, F5⟩ := F4.bind.lift
  refine hf Hf2 H2 d1 d2 v1 v2 res Q R2.reg.sub b1 b2 e5 fun v H' g => ?_
  exact got_end (K := X.K) R2 (fun v H' Hf' R' e' ok' => F5 v H' Hf' R' (Same.trans e1 (Same.trans e2 e')) ok') g
theorem ev_bin {op : Operator} {pos : Pos} {r : R2} {f : D → D → Option Rs} (ho : OpR X (binaryOp op) r) (hf : Op2 X.K r f) (ha : EV X E a m1) (hb : EV X E b m2) : EV X E (.BinOp a op b pos) (mBin f m1 m2) :=
  PE.conv (pe_op ho ha hb) fun σ H Q q => bin_conv hf q
theorem ev_cmp {op : CmpOp} {pos : Pos} {r : R2} {f : D → D → Option Rs} (ho : OpR X (compareOp op) r) (hf : Op2 X.K r f) (ha : EV X E a m1) (hb : EV X E b m2) (hm : behindInMarks op b = false) : EV X E (.Compare a [op] [b] pos) (mBin f m1 m2) :=
  PE.conv (pe_cmpR ho ha hb hm) fun σ H Q q => bin_conv hf q
theorem un_conv {r : V → Hp → VK → Prop} {f : D → Option Rs} (hf : Op1 X.K r f) {σ : St} {H : Hp} {Q : VK} (q : tM X.K X.mg E (mUn f m1) σ H Q) : tM X.K X.mg E m1 σ H fun x H1 => r x H1 Q := by
  refine tM.bind q fun ba O Hf s r1 v1 H1 R1 ok1 F => ?_
  obtain ⟨d, F3, b1⟩ := peek_now R1 ok1 F.bind
  obtain ⟨res, e5, F5⟩ := F3.bind.lift
  exact hf Hf H1 d v1 res Q R1.reg.sub b1 e5 fun v H' g => got_end (K := X.K) R1 F5 g
theorem ev_un {op : UnaryOp} {pos : Pos} {r : V → Hp → VK → Prop} {f : D → Option Rs} (ho : UnR X (unaryOp op) r) (hf : Op1 X.K r f) (ha : EV X E a m1) : EV X E (.UnaryOp op a pos) (mUn f m1) :=
  PE.conv (pe_un ho ha) fun σ H Q q => un_conv hf q
theorem ev_ix {pos : Pos} {r : R2} {f : D → D → Option Rs} (hr : IxR X r) (hf : Op2 X.K r f) (ha : EV X E a m1) (hb : EV X E b m2) (hs : PlainIx b) : EV X E (.Subscript a b pos) (mBin f m1 m2) :=
  PE.conv (pe_ix hr ha hb hs) fun σ H Q q => bin_conv hf q
end
/-! ### tests -/
/-- the reading of a test's meaning -/
def tMT (K : PySem.W.Frag) (mg : Str → Option Value) (E : WX) (m : M Bool) : TT := fun σ H Q => ∃ ba O Hf s, Rep K ba O Hf H σ s ∧
  Fits (m s) (fun b s' => ∀ H' Hf', Rep K ba O Hf' H' σ s' → Same Hf Hf' → Q b H') (ExW K mg E ba O Hf σ)
abbrev ET (X : Cx) (E : WX) (e : Expr) (m : M Bool) : Prop := PT X e (tMT X.K X.mg E m)
def truD : D → Option Bool
  | .none => some false
  | .bool b => some b
  | .int i => some (i != 0)
  | .str x => if x.length ≤ sizeLine then some ((x.length : Int) != 0) else none
  | .list xs => some (!xs.isEmpty)
  | .tuple xs => some (!xs.isEmpty)
  | .dict xs => some (!xs.isEmpty)
theorem RpL.empty {K : PySem.W.Frag} {H : Hp} {ds : List D} {vs : List V} (h : RpL K H ds vs) : vs.isEmpty = ds.isEmpty := by
  cases ds with
  | nil => rw [h.nil_inv]; rfl
  | cons d ds => obtain ⟨v, r, rfl, _⟩ := h.cons_inv; rfl
theorem RpK.length {K : PySem.W.Frag} {H : Hp} : ∀ {kvs : List (D × D)} {ws : List (Key × V)}, RpK K H kvs ws → ws.length = kvs.length
  | [], ws, h => by
    have e : ws = [] := by simpa only [RpK] using h
    rw [e]; rfl
  | (k, d) :: r, ws, h => by
    simp only [RpK] at h
    obtain ⟨kk, v, t, rfl, _, _, h4⟩ := h
    rw [List.length_cons, List.length_cons, RpK.length h4]
theorem tru_of {K : PySem.W.Frag} {Hf H : Hp} {d : D} {v : V} {k : Bool} (e : Sub Hf H) (h : BRp K Hf H d v) (t : truD d = some k) : TruV K v H k := by
  rcases h with h | ⟨a, vs, ds, rfl, h1, rfl, h2⟩ | ⟨a, ws, kvs, rfl, h1, rfl, h2⟩
  · cases d with
    | none => simp only [Rp] at h; subst h; cases t; rfl
    | bool b => simp only [Rp] at h; subst h; cases t; rfl
    | int i => simp only [Rp] at h; subst h; cases t; rfl
    | str x =>
      simp only [Rp] at h; subst h
      simp only [truD] at t
      split at t
      · cases t; exact ⟨by assumption, rfl⟩
      · cases t
    | list xs =>
      simp only [Rp] at h
      obtain ⟨a, vs, rfl, h1, h2⟩ := h
      cases t
      exact .inl ⟨vs, Sub.sqL e h1, by rw [h2.empty]⟩
    | tuple xs =>
      simp only [Rp] at h
      obtain ⟨a, vs, rfl, h1, h2⟩ := h
      cases t
      exact .inr (.inl ⟨vs, Sub.sqT e h1, by rw [h2.empty]⟩)
    | dict xs =>
      simp only [Rp] at h
      obtain ⟨a, ws, rfl, h1, h2⟩ := h
      cases t
      refine .inr (.inr ⟨ws, Sub.at e h1, ?_⟩)
      have := h2.length
      cases xs <;> cases ws <;> simp_all
  · cases t
    exact .inl ⟨vs, SqL.of h1, by rw [h2.empty]⟩
  · cases t
    refine .inr (.inr ⟨ws, h1, ?_⟩)
    have := h2.length
    cases kvs <;> cases ws <;> simp_all
def mTru (m : M Rv) : M Bool := M.bind m fun r => M.bind (peek r) fun d => M.lift (truD d)
/-- a comparison's answer -/
def mIs (m : M Rv) : M Bool := M.bind m fun r => match r with
  | .dat (.bool b) => M.pure b
  | _ => M.stuck
def mNotT (m : M Bool) : M Bool := M.bind m fun b => M.pure (!b)
def mAndT (m n : M Bool) : M Bool := M.bind m fun b => if b then n else M.pure false
def mOrT (m n : M Bool) : M Bool := M.bind m fun b => if b then M.pure true else n
section
variable {X : Cx} {E : WX} {a b : Expr} {m : M Rv} {n n1 n2 : M Bool} {rest : List Expr} {pos : Pos}
theorem tM.bindT {m : M Rv} {f : Rv → M Bool} {σ : St} {H : Hp} {Q : Bool → Hp → Prop} {R : V → Hp → Prop}
    (h : tMT X.K X.mg E (M.bind m f) σ H Q)
    (k : ∀ ba O Hf s r v H1, Rep X.K ba O Hf H1 σ s → RvOk X.K ba O Hf H1 σ s r v → Fits (f r s) (fun b s' => ∀ H' Hf', Rep X.K ba O Hf' H' σ s' → Same Hf Hf' → Q b H') (ExW X.K X.mg E ba O Hf σ) → R v H1) :
    tM X.K X.mg E m σ H R := by
  obtain ⟨ba, O, Hf, s, R0, F⟩ := h
  refine ⟨ba, O, Hf, s, R0, F.bind.imp (fun r s' F' v H1 Hf1 R1 e1 ok1 => ?_) fun x s' q => q⟩
  exact k ba O Hf1 s' r v H1 R1 ok1 (F'.imp (fun r2 s2 q H' Hf' R' e' => q H' Hf' R' (Same.trans e1 e')) fun x s2 q => ExW.mono e1 q)
theorem et_truth (ha : EV X E a m) (he : ∀ whole, isTrue a X.env whole = (do let v ← whole; standAt a.pos; holding [v] (truthy v)) := by intro _; rfl) : ET X E a (mTru m) :=
  PT.conv (pt_truth ha he) fun σ H Q q => tM.bindT q fun ba O Hf s r v H1 R ok F => by
    obtain ⟨d, F2, b1⟩ := peek_now R ok F.bind
    obtain ⟨k, e, F3⟩ := F2.lift
    exact ⟨k, tru_of R.reg.sub b1 e, F3 H1 Hf R (Same.refl _)⟩
/-- from a rule that reads «a bool comes» -/
theorem is_conv {t : TE} {σ : St} {H : Hp} {Q : Bool → Hp → Prop} (c : ∀ Q', tM X.K X.mg E m σ H Q' → t σ H Q') (q : tMT X.K X.mg E (mIs m) σ H Q) : tTest t σ H Q :=
  c _ (tM.bindT q fun ba O Hf s r v H1 R ok F => by
    cases r with
    | dat d =>
      cases d with
      | bool b =>
        have e : v = .bl b := by
          have ok' : Rp X.K Hf (.bool b) v := ok
          simpa only [Rp] using ok'
        exact ⟨b, e, F H1 Hf R (Same.refl _)⟩
      | _ => exact F.elim
    | _ => exact F.elim)
theorem et_val (ha : EV X E a m) (he : ∀ whole, isTrue a X.env whole = (do let v ← whole; standAt a.pos; holding [v] (truthy v)) := by intro _; rfl) : ET X E a (mIs m) :=
  PT.conv (pt_val ha he) fun σ H Q q => is_conv (t := tM X.K X.mg E m) (fun _ q => q) q
theorem et_cmp {op : CmpOp} {r : R2} {f : D → D → Option Rs} {m1 m2 : M Rv} (ho : OpR X (compareOp op) r) (hf : Op2 X.K r f) (ha : EV X E a m1) (hb : EV X E b m2) (hm : behindInMarks op b = false) : ET X E (.Compare a [op] [b] pos) (mIs (mBin f m1 m2)) :=
  PT.conv (pt_cmpR ho ha hb hm) fun σ H Q q => is_conv (fun _ q => bin_conv hf q) q
theorem et_not (ha : ET X E a n) : ET X E (.UnaryOp .Not a pos) (mNotT n) := PT.conv (pt_not ha) fun σ H Q q => by
  obtain ⟨ba, O, Hf, s, R, F⟩ := q
  exact ⟨ba, O, Hf, s, R, F.bind⟩
abbrev EW (X : Cx) (E : WX) (e : Expr) (m : M Bool) : Prop := PW X e (tMT X.K X.mg E m)
theorem PW.conv {e : Expr} {t t' : TT} (h : PW X e t) (c : ∀ σ H Q, t' σ H Q → t σ H Q) : PW X e t' := ⟨fun w pins s σ H Q I q => h.run w pins s σ H Q I (c σ H Q q)⟩
theorem tMT.bind {g : Bool → M Bool} {σ : St} {H : Hp} {Q R : Bool → Hp → Prop} (h : tMT X.K X.mg E (M.bind n g) σ H Q)
    (k : ∀ ba O Hf s b H1, Rep X.K ba O Hf H1 σ s → Fits (g b s) (fun b s' => ∀ H' Hf', Rep X.K ba O Hf' H' σ s' → Same Hf Hf' → Q b H') (ExW X.K X.mg E ba O Hf σ) → R b H1) : tMT X.K X.mg E n σ H R := by
  obtain ⟨ba, O, Hf, s, R0, F⟩ := h
  refine ⟨ba, O, Hf, s, R0, F.bind.imp (fun r s' F' H1 Hf1 R1 e1 => ?_) fun x s' q => q⟩
  exact k ba O Hf1 s' r H1 R1 (F'.imp (fun r2 s2 q H' Hf' R' e' => q H' Hf' R' (Same.trans e1 e')) fun x s2 q => ExW.mono e1 q)
theorem ew_and1 (ha : ET X E a n) : EW X E (.BoolOp .And [a] pos) n := pw_and1 ha
theorem ew_or1 (ha : ET X E a n) : EW X E (.BoolOp .Or [a] pos) n := pw_or1 ha
theorem ew_and (ha : ET X E a n1) (hb : EW X E (.BoolOp .And (b :: rest) pos) n2) : EW X E (.BoolOp .And (a :: b :: rest) pos) (mAndT n1 n2) :=
  PW.conv (pw_and ha hb) fun σ H Q q => tMT.bind q fun ba O Hf s b H1 R F => by
    cases b with
    | true => exact ⟨ba, O, Hf, s, R, F⟩
    | false => exact F H1 Hf R (Same.refl _)
theorem ew_or (ha : ET X E a n1) (hb : EW X E (.BoolOp .Or (b :: rest) pos) n2) : EW X E (.BoolOp .Or (a :: b :: rest) pos) (mOrT n1 n2) :=
  PW.conv (pw_or ha hb) fun σ H Q q => tMT.bind q fun ba O Hf s b H1 R F => by
    cases b with
    | false => exact ⟨ba, O, Hf, s, R, F⟩
    | true => exact F H1 Hf R (Same.refl _)
theorem et_w {e : Expr} (h : EW X E e n) : ET X E e n := h.pt
/-! ### and, or, not, if as values -/
def mAndV (m1 m2 : M Rv) : M Rv := M.bind m1 fun r => match r with
  | .dat (.bool true) => m2
  | .dat (.bool false) => M.pure (.dat (.bool false))
  | _ => M.stuck
def mOrV (m1 m2 : M Rv) : M Rv := M.bind m1 fun r => match r with
  | .dat (.bool true) => M.pure (.dat (.bool true))
  | .dat (.bool false) => m2
  | _ => M.stuck
def mNotV (m : M Rv) : M Rv := M.bind m fun r => match r with
  | .dat (.bool b) => M.pure (.dat (.bool (!b)))
  | _ => M.stuck
def mIf (n : M Bool) (m1 m2 : M Rv) : M Rv := M.bind n fun b => if b then m1 else m2
theorem rp_bl {K : PySem.W.Frag} {Hf : Hp} {b : Bool} {v : V} (h : Rp K Hf (.bool b) v) : v = .bl b := by simpa only [Rp] using h
theorem bl_rp {K : PySem.W.Frag} {Hf : Hp} {b : Bool} : Rp K Hf (.bool b) (.bl b) := by simp only [Rp]
theorem rp_int {K : PySem.W.Frag} {Hf : Hp} {b : Int} {v : V} (h : Rp K Hf (.int b) v) : v = .int b := by simpa only [Rp] using h
theorem int_rp {K : PySem.W.Frag} {Hf : Hp} {b : Int} : Rp K Hf (.int b) (.int b) := by simp only [Rp]
theorem str_rp {K : PySem.W.Frag} {Hf : Hp} {b : Str} : Rp K Hf (.str b) (.str b) := by simp only [Rp]
theorem rp_str {K : PySem.W.Frag} {Hf : Hp} {b : Str} {v : V} (h : Rp K Hf (.str b) v) : v = .str b := by simpa only [Rp] using h
theorem ev_one {op} (h : EV X E a m) : EV X E (.BoolOp op [a] pos) m := pe_one h
theorem ev_and {m1 m2 : M Rv} (ha : EV X E a m1) (hb : EV X E (.BoolOp .And (b :: rest) pos) m2) : EV X E (.BoolOp .And (a :: b :: rest) pos) (mAndV m1 m2) :=
  PE.conv (pe_and ha hb) fun σ H Q q => tM.bind q fun ba O Hf s r v H1 R ok F => by
    cases r with
    | dat d =>
      cases d with
      | bool b =>
        refine ⟨b, rp_bl (K := X.K) (Hf := Hf) ok, ?_⟩
        cases b with
        | true => exact ⟨ba, O, Hf, s, R, F⟩
        | false => exact F _ H1 Hf R (Same.refl _) (bl_rp (K := X.K) (Hf := Hf))
      | _ => exact F.elim
    | _ => exact F.elim
theorem ev_or {m1 m2 : M Rv} (ha : EV X E a m1) (hb : EV X E (.BoolOp .Or (b :: rest) pos) m2) : EV X E (.BoolOp .Or (a :: b :: rest) pos) (mOrV m1 m2) :=
  PE.conv (pe_or ha hb) fun σ H Q q => tM.bind q fun ba O Hf s r v H1 R ok F => by
    cases r with
    | dat d =>
      cases d with
      | bool b =>
        refine ⟨b, rp_bl (K := X.K) (Hf := Hf) ok, ?_⟩
        cases b with
        | false => exact ⟨ba, O, Hf, s, R, F⟩
        | true => exact F _ H1 Hf R (Same.refl _) (bl_rp (K := X.K) (Hf := Hf))
      | _ => exact F.elim
    | _ => exact F.elim
theorem ev_not (ha : EV X E a m) : EV X E (.UnaryOp .Not a pos) (mNotV m) :=
  PE.conv (pe_not ha) fun σ H Q q => tM.bind q fun ba O Hf s r v H1 R ok F => by
    cases r with
    | dat d =>
      cases d with
      | bool b => exact ⟨b, rp_bl (K := X.K) (Hf := Hf) ok, F _ H1 Hf R (Same.refl _) (bl_rp (K := X.K) (Hf := Hf))⟩
      | _ => exact F.elim
    | _ => exact F.elim
theorem ev_if {c : Expr} {m1 m2 : M Rv} (hc : ET X E c n) (ha : EV X E a m1) (hb : EV X E b m2) : EV X E (.IfExp c a b pos) (mIf n m1 m2) :=
  PE.conv (pe_ifExp hc ha hb) fun σ H Q q => by
    obtain ⟨ba, O, Hf, s, R0, F⟩ := q
    refine ⟨ba, O, Hf, s, R0, F.bind.imp (fun b s' F' H1 Hf1 R1 e1 => ?_) fun x s' q => q⟩
    have F2 : Fits ((if b then m1 else m2) s') (fun r s' => ∀ v H' Hf', Rep X.K ba O Hf' H' σ s' → Same Hf1 Hf' → RvOk X.K ba O Hf' H' σ s' r v → Q v H') (ExW X.K X.mg E ba O Hf1 σ) :=
      F'.imp (fun r2 s2 q v' H' Hf' R' e' ok' => q v' H' Hf' R' (Same.trans e1 e') ok') fun x s2 q => ExW.mono e1 q
    cases b with
    | true => exact ⟨ba, O, Hf1, s', R1, F2⟩
    | false => exact ⟨ba, O, Hf1, s', R1, F2⟩
end
end Pu
/-! Pu3: the operations on data. -/
namespace Pu
open PySem PySem.Spec L2
section
variable {K : PySem.W.Frag} {Hf H : Hp}
theorem brp_int {i : Int} {x : V} (h : BRp K Hf H (.int i) x) : x = .int i := by
  rcases h with h | ⟨a, vs, ds, _, _, e, _⟩ | ⟨a, vs, ds, _, _, e, _⟩
  · simpa only [Rp] using h
  · cases e
  · cases e
theorem brp_bl {i : Bool} {x : V} (h : BRp K Hf H (.bool i) x) : x = .bl i := by
  rcases h with h | ⟨a, vs, ds, _, _, e, _⟩ | ⟨a, vs, ds, _, _, e, _⟩
  · simpa only [Rp] using h
  · cases e
  · cases e
theorem brp_str {i : Str} {x : V} (h : BRp K Hf H (.str i) x) : x = .str i := by
  rcases h with h | ⟨a, vs, ds, _, _, e, _⟩ | ⟨a, vs, ds, _, _, e, _⟩
  · simpa only [Rp] using h
  · cases e
  · cases e
theorem brp_non {x : V} (h : BRp K Hf H .none x) : x = .non := by
  rcases h with h | ⟨a, vs, ds, _, _, e, _⟩ | ⟨a, vs, ds, _, _, e, _⟩
  · simpa only [Rp] using h
  · cases e
  · cases e
theorem brp_list {ds : List D} {x : V} (s : Sub Hf H) (h : BRp K Hf H (.list ds) x) : ∃ a vs, x = .ref a ∧ SqL K H a vs ∧ RpL K Hf ds vs := by
  rcases h with h | ⟨a, vs, es, h1, h2, e, h3⟩ | ⟨a, vs, es, h1, h2, e, h3⟩
  · simp only [Rp] at h
    obtain ⟨a, vs, h1, h2, h3⟩ := h
    exact ⟨a, vs, h1, Sub.sqL s h2, h3⟩
  · cases e
    exact ⟨a, vs, h1, SqL.of h2, h3⟩
  · cases e
theorem brp_tup {ds : List D} {x : V} (s : Sub Hf H) (h : BRp K Hf H (.tuple ds) x) : ∃ a vs, x = .ref a ∧ SqT K H a vs ∧ RpL K Hf ds vs := by
  rcases h with h | ⟨a, vs, es, h1, h2, e, h3⟩ | ⟨a, vs, es, h1, h2, e, h3⟩
  · simp only [Rp] at h
    obtain ⟨a, vs, h1, h2, h3⟩ := h
    exact ⟨a, vs, h1, Sub.sqT s h2, h3⟩
  · cases e
  · cases e
theorem brp_dict {ds : List (D × D)} {x : V} (s : Sub Hf H) (h : BRp K Hf H (.dict ds) x) : ∃ a ws, x = .ref a ∧ H a = some (.dK ws) ∧ RpK K Hf ds ws := by
  rcases h with h | ⟨a, vs, es, h1, h2, e, h3⟩ | ⟨a, vs, es, h1, h2, e, h3⟩
  · simp only [Rp] at h
    obtain ⟨a, vs, h1, h2, h3⟩ := h
    exact ⟨a, vs, h1, Sub.at s h2, h3⟩
  · cases e
  · cases e
    exact ⟨a, vs, h1, h2, h3⟩
end
/-! ### on the model's own heap -/
section
variable {X : Cx} {pins : List (Addr × Obj)} {σ : St} {H Hf : Hp} {s : Shared}
mutual
theorem reads_of (I : Inv X pins σ H s) (e : Sub Hf H) : ∀ (d : D) (v : V) (u : Value), Rp X.K Hf d v → RelV v u → d.plain = true → ∃ as, Reads s.heap u d as
  | .none, _, _, h, r, _ => by
    simp only [Rp] at h; subst h; cases r; exact ⟨_, .none⟩
  | .bool b, _, _, h, r, _ => by
    simp only [Rp] at h; subst h; cases r; exact ⟨_, .bool b⟩
  | .int i, _, _, h, r, _ => by
    simp only [Rp] at h; subst h; obtain ⟨t, rfl⟩ := r; exact ⟨_, .int i t⟩
  | .str x, _, _, h, r, _ => by
    simp only [Rp] at h; subst h; obtain ⟨t, rfl⟩ := r; exact ⟨_, .str x t⟩
  | .list ds, _, _, h, r, p => by
    simp only [Rp] at h
    obtain ⟨a, vs, rfl, h2, h3⟩ := h
    cases r
    obtain ⟨its, rv, pl, hz⟩ := I.list (Sub.sqL e h2)
    (obtain ⟨o, ho, hc, n, hd⟩ := pl.isList)
    obtain ⟨as, q⟩ := readsAll_of I e ds vs its h3 rv (by simpa only [PyData.plain] using p)
    exact ⟨_, .list ho hc hd (by simpa using q)⟩
  | .tuple ds, _, _, h, r, p => by
    simp only [Rp] at h
    obtain ⟨a, vs, rfl, h2, h3⟩ := h
    cases r
    obtain ⟨its, rv, ⟨o, ho, hc, n, hd⟩, hz⟩ := I.tuple (Sub.sqT e h2)
    obtain ⟨as, q⟩ := readsAll_of I e ds vs its h3 rv (by simpa only [PyData.plain] using p)
    exact ⟨_, .tuple ho hc hd (by simpa using q)⟩
  | .dict _, _, _, _, _, p => by simp [PyData.plain] at p
theorem readsAll_of (I : Inv X pins σ H s) (e : Sub Hf H) : ∀ (ds : List D) (vs : List V) (us : List Value), RpL X.K Hf ds vs → Vals vs us → PyData.plainAll ds = true → ∃ as, ReadsAll s.heap us ds as
  | [], _, _, h, r, _ => by
    rw [h.nil_inv] at r
    cases r
    exact ⟨_, .nil⟩
  | d :: ds, _, _, h, r, p => by
    obtain ⟨v, vr, rfl, h1, h2⟩ := h.cons_inv
    cases r with
    | cons r1 r2 =>
      have p' : d.plain = true ∧ PyData.plainAll ds = true := by simpa [PyData.plainAll] using p
      obtain ⟨as, q1⟩ := reads_of I e d v _ h1 r1 p'.1
      obtain ⟨bs, q2⟩ := readsAll_of I e ds vr _ h2 r2 p'.2
      exact ⟨_, .cons q1 q2⟩
end
theorem reads_b (I : Inv X pins σ H s) (e : Sub Hf H) {d : D} {v : V} {u : Value} (h : BRp X.K Hf H d v) (r : RelV v u) (p : d.plain = true) : ∃ as, Reads s.heap u d as := by
  rcases h with h | ⟨a, vs, ds, rfl, h2, rfl, h3⟩ | ⟨a, ws, kvs, rfl, h2, rfl, h3⟩
  · exact reads_of I e d v u h r p
  · cases r
    obtain ⟨hz, its, n, rv, ho⟩ := I.hok a _ h2
    obtain ⟨as, q⟩ := readsAll_of I e ds vs its h3 rv (by simpa only [PyData.plain] using p)
    exact ⟨_, .list ho rfl rfl (by simpa using q)⟩
  · simp [PyData.plain] at p
end
/-! ### == and != -/
def okD (d : D) : Bool := d.plain && decide (d.depth ≤ 50)
def dEqB (a b : D) : Option Bool := match a, b with
  | .int i, .int j => some (decide (i = j))
  | .str i, .str j => some (decide (i = j))
  | a, b => if okD a && okD b then some (PyData.eqv a b) else none
def dEq (a b : D) : Option Rs := (dEqB a b).map fun k => .dat (.bool k)
def dNe (a b : D) : Option Rs := (dEqB a b).map fun k => .dat (.bool (!k))
def rD2 (K : PySem.W.Frag) (f : D → D → Option Bool) : R2 := fun x y H Q => ∃ Hf d1 d2 k, Sub Hf H ∧ BRp K Hf H d1 x ∧ BRp K Hf H d2 y ∧ f d1 d2 = some k ∧ Q (.bl k) H
theorem op2_D {K : PySem.W.Frag} {f : D → D → Option Bool} : Op2 K (rD2 K f) (fun a b => (f a b).map fun k => .dat (.bool k)) := by
  intro Hf H d1 d2 x y res Q e b1 b2 er q
  obtain ⟨k, ek, rfl⟩ := Option.map_eq_some_iff.mp er
  exact ⟨Hf, d1, d2, k, e, b1, b2, ek, q _ _ (.old (by simp only [Rp]))⟩
section
variable {X : Cx}
theorem op_eqD (hu : X.A.units + 64 < cLine) : OpR X (compareOp .Eq) (rD2 X.K dEqB) := by
  (intro pins s σ H x y v u Q I rx ry h)
  obtain ⟨Hf, d1, d2, k, e, b1, b2, ek, q⟩ := h
  have gen : (okD d1 && okD d2) = true → k = PyData.eqv d1 d2 → wpAny (model X.prog X.w) X.A (compareOp .Eq v u) (EP X pins σ Q) X.xe s := fun ho hk => by
    simp only [okD, Bool.and_eq_true, decide_eq_true_eq] at ho
    obtain ⟨as, r1⟩ := reads_b I e b1 rx ho.1.1
    obtain ⟨bs, r2⟩ := reads_b I e b2 ry ho.2.1
    have h1 := ho.1.2
    refine PySem.SeqAt.eq_plain r1 r2 ho.1.1 ho.2.1 (by have := Nat.min_le_left d1.depth d2.depth; omega) ⟨.bl k, H, I, ?_, q⟩
    rw [hk]; rfl
  unfold dEqB at ek
  split at ek
  · cases ek
    obtain rfl := brp_int b1
    obtain rfl := brp_int b2
    obtain ⟨t, rfl⟩ := rx
    obtain ⟨t', rfl⟩ := ry
    exact PyProof.Rows.eq_int ⟨.bl _, H, I, by rw [Bool.beq_eq_decide_eq]; rfl, q⟩
  · cases ek
    obtain rfl := brp_str b1
    obtain rfl := brp_str b2
    obtain ⟨t, rfl⟩ := rx
    obtain ⟨t', rfl⟩ := ry
    exact PyProof.Rows.eq_str ⟨.bl _, H, I, by rw [Bool.beq_eq_decide_eq]; rfl, q⟩
  · split at ek
    · cases ek
      exact gen (by assumption) rfl
    · cases ek
theorem op_neD (hu : X.A.units + 64 < cLine) : OpR X (compareOp .NotEq) (rD2 X.K fun a b => (dEqB a b).map (!·)) := by
  (intro pins s σ H x y v u Q I rx ry h)
  obtain ⟨Hf, d1, d2, k', e, b1, b2, ek', q⟩ := h
  obtain ⟨k, ek, rfl⟩ := Option.map_eq_some_iff.mp ek'
  have gen : (okD d1 && okD d2) = true → k = PyData.eqv d1 d2 → wpAny (model X.prog X.w) X.A (compareOp .NotEq v u) (EP X pins σ Q) X.xe s := fun ho hk => by
    simp only [okD, Bool.and_eq_true, decide_eq_true_eq] at ho
    obtain ⟨as, r1⟩ := reads_b I e b1 rx ho.1.1
    obtain ⟨bs, r2⟩ := reads_b I e b2 ry ho.2.1
    have h1 := ho.1.2
    refine PySem.SeqAt.ne_plain r1 r2 ho.1.1 ho.2.1 (by have := Nat.min_le_left d1.depth d2.depth; omega) ⟨.bl (!k), H, I, ?_, q⟩
    rw [hk]; rfl
  unfold dEqB at ek
  split at ek
  · cases ek
    obtain rfl := brp_int b1
    obtain rfl := brp_int b2
    obtain ⟨t, rfl⟩ := rx
    obtain ⟨t', rfl⟩ := ry
    exact PyProof.Rows.ne_int ⟨.bl _, H, I, by rw [bne, Bool.beq_eq_decide_eq]; rfl, q⟩
  · cases ek
    obtain rfl := brp_str b1
    obtain rfl := brp_str b2
    obtain ⟨t, rfl⟩ := rx
    obtain ⟨t', rfl⟩ := ry
    exact PyProof.Rows.ne_str ⟨.bl _, H, I, by rw [bne, Bool.beq_eq_decide_eq]; rfl, q⟩
  · split at ek
    · cases ek
      exact gen (by assumption) rfl
    · cases ek
/-! ### <, <=, >, >= -/
def ltOk (a b : D) : Bool := PySem.W.alike a b && a.plain && b.plain && decide (a.depth ≤ 50) && (match a with | .none => false | _ => true)
def dLtB (a b : D) : Option Bool := match a, b with
  | .int i, .int j => some (decide (i < j))
  | a, b => if ltOk a b then some (PySem.W.dataLt a b) else none
def dLeB (a b : D) : Option Bool := match a, b with
  | .int i, .int j => some (decide (i ≤ j))
  | a, b => if ltOk a b then some (!PySem.W.dataLt b a) else none
def dGtB (a b : D) : Option Bool := match a, b with
  | .int i, .int j => some (decide (j < i))
  | a, b => if ltOk a b then some (PySem.W.dataLt b a) else none
def dGeB (a b : D) : Option Bool := match a, b with
  | .int i, .int j => some (decide (j ≤ i))
  | a, b => if ltOk a b then some (!PySem.W.dataLt a b) else none
theorem ltOk_inv {a b : D} (h : ltOk a b = true) : PySem.W.alike a b = true ∧ a.plain = true ∧ b.plain = true ∧ a.depth ≤ 50 ∧ a ≠ .none := by
  simp only [ltOk, Bool.and_eq_true, decide_eq_true_eq] at h
  refine ⟨h.1.1.1.1, h.1.1.1.2, h.1.1.2, h.1.2, fun z => ?_⟩
  subst z
  simp at h
theorem cmp_gen {op : CmpOp} {g : D → D → Bool} (hu : X.A.units + 64 < cLine)
    (rule : ∀ {s : Shared} {a b : Value} {da db : D} {as bs : List Addr} {Q : Value → Shared → Prop}, Reads s.heap a da as → Reads s.heap b db bs → PySem.W.alike da db = true → da ≠ .none → X.A.units + min da.depth db.depth < cLine → Q (.bool (g da db)) s →
      wpAny (model X.prog X.w) X.A (compareOp op a b) Q X.xe s)
    {pins : List (Addr × Obj)} {s : Shared} {σ : St} {H Hf : Hp} {x y : V} {v u : Value} {Q : VK} {d1 d2 : D} (I : Inv X pins σ H s) (rx : RelV x v) (ry : RelV y u) (e : Sub Hf H) (b1 : BRp X.K Hf H d1 x) (b2 : BRp X.K Hf H d2 y)
    (ho : ltOk d1 d2 = true) (q : Q (.bl (g d1 d2)) H) : wpAny (model X.prog X.w) X.A (compareOp op v u) (EP X pins σ Q) X.xe s := by
  obtain ⟨h1, h2, h3, h4, h5⟩ := ltOk_inv ho
  obtain ⟨as, r1⟩ := reads_b I e b1 rx h2
  obtain ⟨bs, r2⟩ := reads_b I e b2 ry h3
  exact rule r1 r2 h1 h5 (by have := Nat.min_le_left d1.depth d2.depth; omega) ⟨.bl _, H, I, rfl, q⟩
theorem op_ltD (hu : X.A.units + 64 < cLine) : OpR X (compareOp .Lt) (rD2 X.K dLtB) := by
  (intro pins s σ H x y v u Q I rx ry h)
  obtain ⟨Hf, d1, d2, k, e, b1, b2, ek, q⟩ := h
  unfold dLtB at ek
  split at ek
  · cases ek
    obtain rfl := brp_int b1
    obtain rfl := brp_int b2
    obtain ⟨t, rfl⟩ := rx
    obtain ⟨t', rfl⟩ := ry
    exact PyProof.Rows.lt_int ⟨.bl _, H, I, rfl, q⟩
  · split at ek
    · cases ek
      exact cmp_gen hu (fun a b c d f g => PySem.W.lt_data a b c d f g) I rx ry e b1 b2 (by assumption) q
    · cases ek
theorem op_gtD (hu : X.A.units + 64 < cLine) : OpR X (compareOp .Gt) (rD2 X.K dGtB) := by
  (intro pins s σ H x y v u Q I rx ry h)
  obtain ⟨Hf, d1, d2, k, e, b1, b2, ek, q⟩ := h
  unfold dGtB at ek
  split at ek
  · cases ek
    obtain rfl := brp_int b1
    obtain rfl := brp_int b2
    obtain ⟨t, rfl⟩ := rx
    obtain ⟨t', rfl⟩ := ry
    exact PyProof.Rows.gt_int ⟨.bl _, H, I, rfl, q⟩
  · split at ek
    · cases ek
      exact cmp_gen (g := fun a b => PySem.W.dataLt b a) hu (fun a b c d f g => PySem.W.gt_data a b c d f g) I rx ry e b1 b2 (by assumption) q
    · cases ek
theorem op_leD (hu : X.A.units + 64 < cLine) : OpR X (compareOp .LtE) (rD2 X.K dLeB) := by
  (intro pins s σ H x y v u Q I rx ry h)
  obtain ⟨Hf, d1, d2, k, e, b1, b2, ek, q⟩ := h
  unfold dLeB at ek
  split at ek
  · cases ek
    obtain rfl := brp_int b1
    obtain rfl := brp_int b2
    obtain ⟨t, rfl⟩ := rx
    obtain ⟨t', rfl⟩ := ry
    exact PyProof.Rows.le_int ⟨.bl _, H, I, rfl, q⟩
  · split at ek
    · cases ek
      exact cmp_gen (g := fun a b => !PySem.W.dataLt b a) hu (fun a b c d f g => PySem.W.le_data a b c d f g) I rx ry e b1 b2 (by assumption) q
    · cases ek
theorem op_geD (hu : X.A.units + 64 < cLine) : OpR X (compareOp .GtE) (rD2 X.K dGeB) := by
  (intro pins s σ H x y v u Q I rx ry h)
  obtain ⟨Hf, d1, d2, k, e, b1, b2, ek, q⟩ := h
  unfold dGeB at ek
  split at ek
  · cases ek
    obtain rfl := brp_int b1
    obtain rfl := brp_int b2
    obtain ⟨t, rfl⟩ := rx
    obtain ⟨t', rfl⟩ := ry
    exact PyProof.Rows.ge_int ⟨.bl _, H, I, rfl, q⟩
  · split at ek
    · cases ek
      exact cmp_gen (g := fun a b => !PySem.W.dataLt a b) hu (fun a b c d f g => PySem.W.ge_data a b c d f g) I rx ry e b1 b2 (by assumption) q
    · cases ek
/-! ### in, not in: over lists and tuples -/
def dInB (x c : D) : Option Bool := match c with
  | .list xs => if okD x && PyData.plainAll xs then some (xs.any fun y => PyData.eqv y x) else none
  | .tuple xs => if okD x && PyData.plainAll xs then some (xs.any fun y => PyData.eqv y x) else none
  | _ => none
end
end Pu
/-! Pu4: more operations on data: in, arithmetic, joins, places, slices. -/
namespace Pu
open PySem PySem.Spec L2
mutual
theorem plain_hd : ∀ d : D, d.plain = true → d.hasDict = false
  | .none, _ => by simp only [PyData.hasDict]
  | .bool _, _ => by simp only [PyData.hasDict]
  | .int _, _ => by simp only [PyData.hasDict]
  | .str _, _ => by simp only [PyData.hasDict]
  | .list xs, h => by
    simp only [PyData.hasDict]
    exact plainAll_hd xs (by simpa only [PyData.plain] using h)
  | .tuple xs, h => by
    simp only [PyData.hasDict]
    exact plainAll_hd xs (by simpa only [PyData.plain] using h)
  | .dict _, h => by simp [PyData.plain] at h
theorem plainAll_hd : ∀ xs : List D, PyData.plainAll xs = true → PyData.hasDictAll xs = false
  | [], _ => by simp only [PyData.hasDictAll]
  | x :: xs, h => by
    (have h' : x.plain = true ∧ PyData.plainAll xs = true := by simpa [PyData.plainAll] using h)
    simp only [PyData.hasDictAll, plain_hd x h'.1, plainAll_hd xs h'.2, Bool.or_self]
end
section
variable {X : Cx}
/-! ### in, not in -/
theorem brp_depth {K : PySem.W.Frag} {Hf H : Hp} {d : D} {v : V} : True := trivial
theorem op_inD (hu : X.A.units + 64 < cLine) : OpR X (compareOp .In) (rD2 X.K dInB) := by
  (intro pins s σ H x y v u Q I rx ry h)
  obtain ⟨Hf, d1, d2, k, e, b1, b2, ek, q⟩ := h
  unfold dInB at ek
  cases d2 with
  | list xs =>
    simp only at ek
    split at ek
    · rename_i ho
      cases ek
      simp only [okD, Bool.and_eq_true, decide_eq_true_eq] at ho
      obtain ⟨as, r1⟩ := reads_b I e b1 rx ho.1.1
      obtain ⟨bs, r2⟩ := reads_b I e b2 ry (by simpa only [PyData.plain] using ho.2)
      have h1 := ho.1.2
      exact PySem.SeqAt.in_list_data r2 r1 ho.2 ho.1.1 (by have := Nat.min_le_right (PyData.depthAll xs) d1.depth; omega) ⟨.bl _, H, I, rfl, q⟩
    · cases ek
  | tuple xs =>
    simp only at ek
    split at ek
    · rename_i ho
      cases ek
      simp only [okD, Bool.and_eq_true, decide_eq_true_eq] at ho
      obtain ⟨as, r1⟩ := reads_b I e b1 rx ho.1.1
      obtain ⟨bs, r2⟩ := reads_b I e b2 ry (by simpa only [PyData.plain] using ho.2)
      have h1 := ho.1.2
      exact PySem.SeqAt.in_tuple_data r2 r1 ho.2 ho.1.1 (by have := Nat.min_le_right (PyData.depthAll xs) d1.depth; omega) ⟨.bl _, H, I, rfl, q⟩
    · cases ek
  | _ => cases ek
theorem op_notInD (hu : X.A.units + 64 < cLine) : OpR X (compareOp .NotIn) (rD2 X.K fun a b => (dInB a b).map (!·)) := by
  (intro pins s σ H x y v u Q I rx ry h)
  obtain ⟨Hf, d1, d2, k', e, b1, b2, ek', q⟩ := h
  obtain ⟨k, ek, rfl⟩ := Option.map_eq_some_iff.mp ek'
  unfold dInB at ek
  cases d2 with
  | list xs =>
    simp only at ek
    split at ek
    · rename_i ho
      cases ek
      simp only [okD, Bool.and_eq_true, decide_eq_true_eq] at ho
      obtain ⟨as, r1⟩ := reads_b I e b1 rx ho.1.1
      obtain ⟨bs, r2⟩ := reads_b I e b2 ry (by simpa only [PyData.plain] using ho.2)
      have h1 := ho.1.2
      exact PySem.SeqAt.notIn_list_data r2 r1 ho.2 ho.1.1 (by have := Nat.min_le_right (PyData.depthAll xs) d1.depth; omega) ⟨.bl _, H, I, rfl, q⟩
    · cases ek
  | tuple xs =>
    simp only at ek
    split at ek
    · rename_i ho
      cases ek
      simp only [okD, Bool.and_eq_true, decide_eq_true_eq] at ho
      obtain ⟨as, r1⟩ := reads_b I e b1 rx ho.1.1
      obtain ⟨bs, r2⟩ := reads_b I e b2 ry (by simpa only [PyData.plain] using ho.2)
      have h1 := ho.1.2
      exact PySem.SeqAt.notIn_tuple_data r2 r1 ho.2 ho.1.1 (by have := Nat.min_le_right (PyData.depthAll xs) d1.depth; omega) ⟨.bl _, H, I, rfl, q⟩
    · cases ek
  | _ => cases ek
/-! ### arithmetic, joins -/
/-- list + list, wherever they stand -/
def rCatX (K : PySem.W.Frag) : R2 := fun x y H Q => ∃ l b xs zs, x = .ref l ∧ y = .ref b ∧ SqL K H l xs ∧ SqL K H b zs ∧ xs.length + zs.length ≤ sizeLine ∧ ∀ p, H p = none → Q (.ref p) (upd H p (.lst (xs ++ zs)))
theorem op_catX {X : Cx} : OpR X (binaryOp .Add) (rCatX X.K) := by
  (intro pins s σ H x y v u Q I rx ry h)
  obtain ⟨l, b, xs, zs, rfl, rfl, hx, hy, hz, q⟩ := h
  cases rx
  cases ry
  obtain ⟨i1, r1, p1, _⟩ := I.list hx
  obtain ⟨i2, r2, p2, _⟩ := I.list hy
  obtain ⟨⟨c1, d1, t1, s1⟩, g1, e1, n1, w1⟩ := p1.isList
  obtain ⟨⟨c2, d2, t2, s2⟩, g2, e2, n2, w2⟩ := p2.isList
  simp only at e1 w1 e2 w2
  subst e1 w1 e2 w2
  have l1 := r1.length
  have l2 := r2.length
  refine concat_meets ⟨_, g1, rfl⟩ ⟨_, g2, rfl⟩ noFill_list_add seq_list_add PySem.F.slot_list_add PySem.F.entry_list_add (PySem.F.args_list_add_2 _ _) (PyProof.Rows.list_addW l b i1.toArray i2.toArray n1 n2 d1 d2 s1 s2 (by simp only [List.size_toArray]; omega)) ⟨g1, g2, ?_⟩
  have ea : i1.toArray ++ i2.toArray = (i1 ++ i2).toArray := by simp
  rw [ea]
  exact ⟨.ref s.heap.objs.size, _, I.laid (t' := s.toks) (o := .lst (xs ++ zs)) (fun b u e => Heap.get?_push_of_some _ e) (Nat.le_refl _) ⟨by rw [List.length_append]; exact hz, i1 ++ i2, 0, r1.append r2, Heap.get?_push_size _ rfl⟩, rfl, q _ (I.hok.fresh (Nat.le_refl _))⟩
def dAdd (a b : D) : Option Rs := match a, b with
  | .int i, .int j => some (.dat (.int (i + j)))
  | .str i, .str j => if i.length + j.length ≤ sizeLine then some (.dat (.str (i ++ j))) else none
  | .tuple xs, .tuple ys => if xs.length + ys.length ≤ sizeLine then some (.dat (.tuple (xs ++ ys))) else none
  | .list xs, .list ys => if xs.length + ys.length ≤ sizeLine then some (.fresh (xs ++ ys)) else none
  | _, _ => none
abbrev rAddD (K : PySem.W.Frag) : R2 := fun x y H Q => rI0 (fun i j => .int (i + j)) x y H Q ∨ (∃ i j, x = .str i ∧ y = .str j ∧ i.length + j.length ≤ sizeLine ∧ Q (.str (i ++ j)) H) ∨ rCatA K x y H Q ∨ rCatX K x y H Q
theorem op_addD : OpR X (binaryOp .Add) (rAddD X.K) := OpR.or op_add (OpR.or op_add_str (OpR.or op_catA op_catX))
theorem op2_add {K : PySem.W.Frag} : Op2 K (rAddD K) dAdd := by
  intro Hf H d1 d2 x y res Q e b1 b2 er q
  unfold dAdd at er
  split at er
  · cases er
    obtain rfl := brp_int b1
    obtain rfl := brp_int b2
    exact .inl ⟨_, _, rfl, rfl, q _ _ (.old (by simp only [Rp]))⟩
  · split at er
    · cases er
      obtain rfl := brp_str b1
      obtain rfl := brp_str b2
      exact .inr (.inl ⟨_, _, rfl, rfl, by assumption, q _ _ (.old (by simp only [Rp]))⟩)
    · cases er
  · split at er
    · rename_i xs ys hl
      cases er
      obtain ⟨a, vs, rfl, h1, h2⟩ := brp_tup e b1
      obtain ⟨b, ws, rfl, h3, h4⟩ := brp_tup e b2
      have l1 := h2.length
      have l2 := h4.length
      refine .inr (.inr (.inl ⟨a, b, vs, ws, rfl, rfl, h1, h3, by rw [l1, l2]; exact hl, fun z => ?_, fun _ z => ?_, fun _ _ p hp => q _ _ (.tup hp (h2.append h4))⟩))
      · subst z
        have z2 : xs = [] := List.length_eq_zero_iff.mp l1.symm
        subst z2
        refine q _ _ (.old ?_)
        rcases b2 with b2 | ⟨_, _, _, _, _, z, _⟩ | ⟨_, _, _, _, _, z, _⟩
        · exact b2
        · cases z
        · cases z
      · subst z
        have z2 : ys = [] := List.length_eq_zero_iff.mp l2.symm
        subst z2
        rw [List.append_nil] at q
        refine q _ _ (.old ?_)
        rcases b1 with b1 | ⟨_, _, _, _, _, z, _⟩ | ⟨_, _, _, _, _, z, _⟩
        · exact b1
        · cases z
        · cases z
    · cases er
  · split at er
    · rename_i xs ys hl
      cases er
      obtain ⟨a, vs, rfl, h1, h2⟩ := brp_list e b1
      obtain ⟨b, ws, rfl, h3, h4⟩ := brp_list e b2
      refine .inr (.inr (.inr ⟨a, b, vs, ws, rfl, rfl, h1, h3, by rw [h2.length, h4.length]; exact hl, fun p hp => q _ _ (.lst hp (h2.append h4))⟩))
    · cases er
  · cases er
def dSub (a b : D) : Option Rs := match a, b with
  | .int i, .int j => some (.dat (.int (i - j)))
  | _, _ => none
theorem op2_sub {K : PySem.W.Frag} : Op2 K (rI0 fun i j => .int (i - j)) dSub := by
  intro Hf H d1 d2 x y res Q e b1 b2 er q
  unfold dSub at er
  split at er
  · cases er
    obtain rfl := brp_int b1
    obtain rfl := brp_int b2
    exact ⟨_, _, rfl, rfl, q _ _ (.old (by simp only [Rp]))⟩
  · cases er
/-- one factor below 2 ^ 64 -/
def mulOk (i j : Int) : Bool := decide (-(2 ^ 64) < i ∧ i < 2 ^ 64) || decide (-(2 ^ 64) < j ∧ j < 2 ^ 64)
def dMul (a b : D) : Option Rs := match a, b with
  | .int i, .int j => if mulOk i j then some (.dat (.int (i * j))) else none
  | _, _ => none
theorem op2_mul {K : PySem.W.Frag} : Op2 K (rI CMul fun i j => .int (i * j)) dMul := by
  intro Hf H d1 d2 x y res Q e b1 b2 er q
  unfold dMul at er
  split at er
  · split at er
    · rename_i hm
      cases er
      obtain rfl := brp_int b1
      obtain rfl := brp_int b2
      simp only [mulOk, Bool.or_eq_true, decide_eq_true_eq] at hm
      exact ⟨_, _, rfl, rfl, hm, q _ _ (.old (by simp only [Rp]))⟩
    · cases er
  · cases er
def dFdiv (a b : D) : Option Rs := match a, b with
  | .int i, .int j => if 0 < j ∧ j < 1073741824 then some (.dat (.int (i / j))) else none
  | _, _ => none
theorem op2_fdiv {K : PySem.W.Frag} : Op2 K (rI CDiv fun i j => .int (i / j)) dFdiv := by
  intro Hf H d1 d2 x y res Q e b1 b2 er q
  unfold dFdiv at er
  split at er
  · split at er
    · rename_i hm
      cases er
      obtain rfl := brp_int b1
      obtain rfl := brp_int b2
      exact ⟨_, _, rfl, rfl, hm, q _ _ (.old (by simp only [Rp]))⟩
    · cases er
  · cases er
def dMod (a b : D) : Option Rs := match a, b with
  | .int i, .int j => if 0 < j then some (.dat (.int (i % j))) else none
  | _, _ => none
theorem op2_mod {K : PySem.W.Frag} : Op2 K (rI (fun _ j => 0 < j) fun i j => .int (i % j)) dMod := by
  intro Hf H d1 d2 x y res Q e b1 b2 er q
  unfold dMod at er
  split at er
  · split at er
    · rename_i hm
      cases er
      obtain rfl := brp_int b1
      obtain rfl := brp_int b2
      exact ⟨_, _, rfl, rfl, hm, q _ _ (.old (by simp only [Rp]))⟩
    · cases er
  · cases er
def dPow (a b : D) : Option Rs := match a, b with
  | .int i, .int j => if 0 ≤ j ∧ j ≤ 1000000 ∧ i.natAbs < 2 ^ 64 then some (.dat (.int (i ^ j.toNat))) else none
  | _, _ => none
theorem op2_pow {K : PySem.W.Frag} : Op2 K (rI CPow fun i j => .int (i ^ j.toNat)) dPow := by
  intro Hf H d1 d2 x y res Q e b1 b2 er q
  unfold dPow at er
  split at er
  · split at er
    · rename_i hm
      cases er
      obtain rfl := brp_int b1
      obtain rfl := brp_int b2
      exact ⟨_, _, rfl, rfl, hm, q _ _ (.old (by simp only [Rp]))⟩
    · cases er
  · cases er
def dNeg (a : D) : Option Rs := match a with
  | .int i => some (.dat (.int (-i)))
  | _ => none
theorem op1_neg {K : PySem.W.Frag} : Op1 K (rU fun i => .int (-i)) dNeg := by
  intro Hf H d x res Q e b er q
  unfold dNeg at er
  split at er
  · cases er
    obtain rfl := brp_int b
    exact ⟨_, rfl, q _ _ (.old (by simp only [Rp]))⟩
  · cases er
/-! ### places -/
def ixD (xs : List D) (i : Int) : Option D := (ixN xs.length i).bind fun j => xs[j]?
def dIx (a b : D) : Option Rs := match a, b with
  | .list xs, .int i => (ixD xs i).map .dat
  | .tuple xs, .int i => (ixD xs i).map .dat
  | .str z, .int i => if z.length ≤ sizeLine then (atI z.cps.toList i).map fun c => .dat (.str ⟨#[c]⟩) else none
  | _, _ => none
theorem ixD_get {K : PySem.W.Frag} {H : Hp} {ds : List D} {vs : List V} {i : Int} {d : D} (h : RpL K H ds vs) (e : ixD ds i = some d) : ∃ v, atI vs i = some v ∧ Rp K H d v := by
  unfold ixD at e
  obtain ⟨j, e1, e2⟩ := Option.bind_eq_some_iff.mp e
  obtain ⟨v, e3, r⟩ := h.get e2
  refine ⟨v, ?_, r⟩
  unfold atI
  rw [h.length, e1]
  exact e3
theorem op2_ix {K : PySem.W.Frag} : Op2 K (rIx K) dIx := by
  intro Hf H d1 d2 x y res Q e b1 b2 er q
  unfold dIx at er
  split at er
  · obtain ⟨d, e1, rfl⟩ := Option.map_eq_some_iff.mp er
    obtain ⟨a, vs, rfl, h1, h2⟩ := brp_list e b1
    obtain rfl := brp_int b2
    obtain ⟨v, e3, r⟩ := ixD_get h2 e1
    exact .inl ⟨a, vs, _, v, rfl, rfl, h1, e3, q _ _ (.old r)⟩
  · obtain ⟨d, e1, rfl⟩ := Option.map_eq_some_iff.mp er
    obtain ⟨a, vs, rfl, h1, h2⟩ := brp_tup e b1
    obtain rfl := brp_int b2
    obtain ⟨v, e3, r⟩ := ixD_get h2 e1
    exact .inr (.inl ⟨a, vs, _, v, rfl, rfl, h1, e3, q _ _ (.old r)⟩)
  · split at er
    · obtain ⟨c, e1, rfl⟩ := Option.map_eq_some_iff.mp er
      obtain rfl := brp_str b1
      obtain rfl := brp_int b2
      exact .inr (.inr ⟨_, _, c, rfl, rfl, by assumption, e1, q _ _ (.old (by simp only [Rp]))⟩)
    · cases er
  · cases er
/-! ### slices -/
def cutD (xs : List D) (lo hi : Option Int) : List D := (xs.drop (HT.sIx xs.length 0 lo)).take (HT.sIx xs.length xs.length hi - HT.sIx xs.length 0 lo)
/-- a slice's part -/
def partD : Option D → Option (Option Int)
  | none => some none
  | some (.int i) => some (some i)
  | _ => none
theorem cut_rp {K : PySem.W.Frag} {H : Hp} {ds : List D} {vs : List V} (h : RpL K H ds vs) (lo hi : Option Int) : RpL K H (cutD ds lo hi) (cutV vs lo hi) := by
  unfold cutD cutV
  rw [h.length]
  exact (h.drop _).take _
def dSl (a : D) (lo hi : Option Int) : Option Rs := match a with
  | .list xs => some (.fresh (cutD xs lo hi))
  | .tuple xs => some (.dat (.tuple (cutD xs lo hi)))
  | _ => none
abbrev rSlD (K : PySem.W.Frag) : V → Option Int → Option Int → Hp → VK → Prop := fun x lo hi H Q => rSlL K x lo hi H Q ∨ rSlA K x lo hi H Q
theorem sl_D : SlR X (rSlD X.K) := SlR.or sl_list sl_tupA
theorem sl_of {K : PySem.W.Frag} {Hf H : Hp} {d : D} {x : V} {lo hi : Option Int} {res : Rs} {Q : VK} (e : Sub Hf H) (b : BRp K Hf H d x) (er : dSl d lo hi = some res) (q : ∀ v H', Got K Hf H res v H' → Q v H') : rSlD K x lo hi H Q := by
  unfold dSl at er
  split at er
  · cases er
    obtain ⟨a, vs, rfl, h1, h2⟩ := brp_list e b
    exact .inl ⟨a, vs, rfl, h1, fun p hp => q _ _ (.lst hp (cut_rp h2 lo hi))⟩
  · rename_i xs
    cases er
    obtain ⟨a, vs, rfl, h1, h2⟩ := brp_tup e b
    refine .inr ⟨a, vs, rfl, h1, fun hw => ?_, fun _ p hp => q _ _ (.tup hp (cut_rp h2 lo hi))⟩
    have ec : cutD xs lo hi = xs := by
      unfold cutD
      rw [← h2.length, hw.1, hw.2, Nat.sub_zero, List.drop_zero, h2.length, List.take_length]
    rw [ec] at q
    refine q _ _ (.old ?_)
    rcases b with b | ⟨_, _, _, _, _, z, _⟩ | ⟨_, _, _, _, _, z, _⟩
    · exact b
    · cases z
    · cases z
  · cases er
/-- a slice's bound: none, or an expression -/
def mPart : Option (M Rv) → M (Option Int)
  | none => M.pure none
  | some m => M.bind m fun r => match r with
    | .dat (.int i) => M.pure (some i)
    | _ => M.stuck
def mSl (m : M Rv) (lo hi : Option (M Rv)) : M Rv := M.bind m fun r => M.bind (mPart lo) fun l => M.bind (mPart hi) fun h => M.bind (peek (settle r)) fun d => M.bind (M.lift (dSl d l h)) fun x => M.pure x.rv
/-- the reading of a part -/
def tMO (K : PySem.W.Frag) (mg : Str → Option Value) (E : WX) (m : M (Option Int)) : TO := fun σ H Q => ∃ ba O Hf s, Rep K ba O Hf H σ s ∧
  Fits (m s) (fun b s' => ∀ H' Hf', Rep K ba O Hf' H' σ s' → Same Hf Hf' → Q b H') (ExW K mg E ba O Hf σ)
abbrev EO (X : Cx) (E : WX) (e : Option Expr) (m : Option (M Rv)) : Prop := PO X e (tMO X.K X.mg E (mPart m))
theorem PO.conv {e : Option Expr} {t t' : TO} (h : PO X e t) (c : ∀ σ H Q, t' σ H Q → t σ H Q) : PO X e t' := ⟨fun pins s σ H Q I q => h.run pins s σ H Q I (c σ H Q q)⟩
variable {E : WX}
theorem eo_none : EO X E none none := PO.conv po_none fun σ H Q q => by
  obtain ⟨ba, O, Hf, s, R, F⟩ := q
  exact F H Hf R (Same.refl _)
theorem eo_some {e : Expr} {m : M Rv} (h : EV X E e m) : EO X E (some e) (some m) := PO.conv (po_some h) fun σ H Q q => by
  obtain ⟨ba, O, Hf, s, R0, F⟩ := q
  refine ⟨ba, O, Hf, s, R0, F.bind.imp (fun r s' F' v H1 Hf1 R1 e1 ok1 => ?_) fun x s' q => q⟩
  cases r with
  | dat d =>
    cases d with
    | int i => exact ⟨i, rp_int (K := X.K) (Hf := Hf1) ok1, F' H1 Hf1 R1 e1⟩
    | _ => exact F'.elim
  | _ => exact F'.elim
theorem ev_slice {a : Expr} {lo hi : Option Expr} {m : M Rv} {ml mh : Option (M Rv)} {p2 pos : Pos} (ha : EV X E a m) (hl : EO X E lo ml) (hh : EO X E hi mh) : EV X E (.Subscript a (.Slice lo hi none p2) pos) (mSl m ml mh) :=
  PE.conv (pe_slice sl_D ha hl hh) fun σ H Q q => tM.bind q fun ba O Hf s r v H1 R1 ok1 F => by
    obtain ⟨Hf1, e1, R1', lt⟩ := R1.settle ok1
    refine ⟨ba, O, Hf1, s, R1', F.bind.imp (fun l s2 F2 H2 Hf2 R2 e2 => ?_) fun x s' q => ExW.mono e1 q⟩
    refine ⟨ba, O, Hf2, s2, R2, F2.bind.imp (fun u s3 F3 H3 Hf3 R3 e3 => ?_) fun x s' q => ExW.mono (Same.trans e1 e2) q⟩
    obtain ⟨d, F4, b⟩ := peek_late R3 (lt.mono (Same.trans e2 e3)) F3.bind
    obtain ⟨res, er, F5⟩ := F4.bind.lift
    exact sl_of R3.reg.sub b er fun v H' g => got_end (K := X.K) R3 (fun v H' Hf' R' e' ok' => F5 v H' Hf' R' (Same.trans e1 (Same.trans e2 (Same.trans e3 e'))) ok') g
/-! ### chains of comparisons -/
def mChain (f g : D → D → Option Bool) (m1 m2 m3 : M Rv) : M Rv := M.bind m1 fun r1 => M.bind m2 fun r2 => M.bind (peek (settle r1)) fun d1 => M.bind (peek (settle r2)) fun d2 => M.bind (M.lift (f d1 d2)) fun k =>
  if k then M.bind m3 fun r3 => M.bind (peek (settle r2)) fun d2 => M.bind (peek r3) fun d3 => M.bind (M.lift (g d2 d3)) fun k => M.pure (.dat (.bool k)) else M.pure (.dat (.bool false))
theorem chain_conv {f g : D → D → Option Bool} {m1 m2 m3 : M Rv} {σ : L2.St} {H : Hp} {Q : VK} (q : tM X.K X.mg E (mChain f g m1 m2 m3) σ H Q) :
    tChain (rD2 X.K f) (rD2 X.K g) (tM X.K X.mg E m1) (tM X.K X.mg E m2) (tM X.K X.mg E m3) σ H Q := by
  refine tM.bind q fun ba O Hf s r1 v1 H1 R1 ok1 F => ?_
  obtain ⟨Hf1, e1, R1', lt⟩ := R1.settle ok1
  refine ⟨ba, O, Hf1, s, R1', F.bind.imp (fun r2 s2 F2 v2 H2 Hf2 R2 e2 ok2 => ?_) fun x s' q => ExW.mono e1 q⟩
  obtain ⟨d1, F3, b1⟩ := peek_late R2 (lt.mono e2) F2.bind
  obtain ⟨Hf3, e3, R3, lt2⟩ := R2.settle ok2
  obtain ⟨d2, F4, b2⟩ := peek_late R3 lt2 F3.bind
  obtain ⟨k, ek, F5⟩ := F4.bind.lift
  have b1' : BRp X.K Hf3 H2 d1 v1 := by
    rcases b1 with b | ⟨a, vs, ds, z1, z2, z3, z4⟩ | ⟨a, vs, ds, z1, z2, z3, z4⟩
    · exact .inl (Rp.mono e3 _ _ b)
    · exact .inr (.inl ⟨a, vs, ds, z1, z2, z3, RpL.mono e3 _ _ z4⟩)
    · exact .inr (.inr ⟨a, vs, ds, z1, z2, z3, RpK.mono e3 _ _ z4⟩)
  refine ⟨Hf3, d1, d2, k, R3.reg.sub, b1', b2, ek, k, rfl, ?_⟩
  cases k with
  | false =>
    refine iteF ?_
    exact F5 _ H2 Hf3 R3 (Same.trans e1 (Same.trans e2 e3)) (bl_rp (K := X.K) (Hf := Hf3))
  | true =>
    refine iteT ⟨ba, O, Hf3, s2, R3, F5.bind.imp (fun r3 s4 F6 v3 H4 Hf4 R4 e4 ok4 => ?_) fun x s' q => ExW.mono (Same.trans e1 (Same.trans e2 e3)) q⟩
    obtain ⟨d2', F7, b3⟩ := peek_late R4 (lt2.mono e4) F6.bind
    obtain ⟨d3, F8, b4⟩ := peek_now R4 ok4 F7.bind
    obtain ⟨k2, ek2, F9⟩ := F8.bind.lift
    exact ⟨Hf4, d2', d3, k2, R4.reg.sub, b3, b4, ek2, F9 _ H4 Hf4 R4 (Same.trans e1 (Same.trans e2 (Same.trans e3 e4))) (bl_rp (K := X.K) (Hf := Hf4))⟩
theorem ev_chain {op op' : CmpOp} {a b c : Expr} {f g : D → D → Option Bool} {m1 m2 m3 : M Rv} {pos : Pos} (ho : OpR X (compareOp op) (rD2 X.K f)) (ho' : OpR X (compareOp op') (rD2 X.K g)) (ha : EV X E a m1) (hb : EV X E b m2) (hc : EV X E c m3)
    (hm : lastMarks [op, op'] [b, c] = false := by with_unfolding_all rfl) : EV X E (.Compare a [op, op'] [b, c] pos) (mChain f g m1 m2 m3) :=
  PE.conv (pe_chain ho ho' ha hb hc hm) fun σ H Q q => chain_conv q
theorem et_chain {op op' : CmpOp} {a b c : Expr} {f g : D → D → Option Bool} {m1 m2 m3 : M Rv} {pos : Pos} (ho : OpR X (compareOp op) (rD2 X.K f)) (ho' : OpR X (compareOp op') (rD2 X.K g)) (ha : EV X E a m1) (hb : EV X E b m2) (hc : EV X E c m3)
    (hm : lastMarks [op, op'] [b, c] = false := by with_unfolding_all rfl) : ET X E (.Compare a [op, op'] [b, c] pos) (mIs (mChain f g m1 m2 m3)) :=
  PT.conv (pt_chain ho ho' ha hb hc hm) fun σ H Q q => is_conv (fun _ q => chain_conv q) q
end
end Pu
/-! Pu5: defs where no text of an object is being made around; argument rows; displays; calls of built-ins. -/
namespace Pu
open PySem PySem.Spec PyProof.Rows L2
/-- as FnOk, where nothing stands in the middle of a repr -/
structure FnG (P : Program) (w : World) (K : PySem.W.Frag) (mg : Str → Option Value) (base : Heap) (CX : CXT) (k : Nat) (f : Addr) (fd : FuncData) (ps : List Str) (sp : Sp) : Prop where
  len : ∀ us H Q E, sp us H Q E → us.length = ps.length
  go : ∀ (A : Around) (outer : List Env) (s : Shared) (H : Hp) (args : Args) (us : List Value) (vs : List V) (Q : VK) (E : XK), A.guards = some [] → Room k A → Env0 P w K mg base A outer s H → BindsTo s fd args (ps.zip us) →
    Vals vs us → sp vs H Q E → codeAny (model P w) A (.call (.ref f) args) (CR CX outer P w H s Q E) s
section
variable {P : Program} {w : World} {K : PySem.W.Frag} {mg : Str → Option Value} {base : Heap} {CX : CXT} {j k : Nat} {f : Addr} {fd : FuncData} {ps : List Str} {sp : Sp}
theorem FnG.of (F : FnOk P w K mg base CX k f fd ps sp) : FnG P w K mg base CX k f fd ps sp := ⟨F.len, fun A outer s H args us vs Q E _ => F.run A outer s H args us vs Q E⟩
theorem FnG.mono (F : FnG P w K mg base CX j f fd ps sp) (h : j ≤ k) : FnG P w K mg base CX k f fd ps sp :=
  ⟨F.len, fun A outer s H args us vs Q E hg hr => F.go A outer s H args us vs Q E hg (hr.mono h)⟩
theorem FnG.imp {sp' : Sp} (F : FnG P w K mg base CX k f fd ps sp) (h : ∀ vs H Q E, sp' vs H Q E → sp vs H Q E) : FnG P w K mg base CX k f fd ps sp' :=
  ⟨fun vs H Q E q => F.len vs H Q E (h _ _ _ _ q), fun A outer s H args us vs Q E hg hr he hb hv hs => F.go A outer s H args us vs Q E hg hr he hb hv (h _ _ _ _ hs)⟩
end
/-- the code object of the def at f -/
def HasCode (K : PySem.W.Frag) (f : Addr) (cdv : Value) : Prop := ∃ oc od osl fd c, K.lookup f = some ⟨oc, od, .func fd, osl⟩ ∧ fd.code = .ref c ∧ cdv = .ref c
theorem code_ref {K : PySem.W.Frag} {cd : Value} {q : Str} (e : PySem.W.codeIn K cd q = true) : ∃ c, cd = .ref c := by
  cases cd with
  | ref c => exact ⟨c, rfl⟩
  | _ => cases e
/-- a def by its body, as fn_of, the context's guards told -/
theorem fnG_of {P : Program} {w : World} {K : PySem.W.Frag} {mg : Str → Option Value} {base : Heap} {CX : CXT} {k : Nat} {f : Addr} {x qual : Str} {st : Stmt} {fd : FuncData} {N ps : List Str} {sp : Sp}
    (F : Fun K x qual st f fd) (S : FnScope N ps (defScope st)) (hlen : ∀ vs H Q E, sp vs H Q E → vs.length = ps.length)
    (body : ∀ (cdv : Value) (A : Around) (outer : List Env) (s : Shared) (H : Hp) (vs : List V) (Q : VK) (E : XK), HasCode K f cdv → A.guards = some [] → Room k (A.deeper (envOfC qual (defScope st) s.heap.objs.size f cdv)) → sp vs H Q E →
      ∃ t, PSs (cxOf CX P w K mg base N qual (defScope st) f cdv A outer s H E) (defBody st) t ∧ t { nx := fun _ H' => Q .non H', rt := Q } (start N vs) H) : FnG P w K mg base CX (k + 1) f fd ps sp := by
  (obtain ⟨oc, od, kV, doc, pm, an, cdv, ct, osl, rfl, lk, hcd⟩ := F.ex)
  constructor
  · exact hlen
  · intro A outer s H args us vs Q E hgd room e0 hb hv hsp
    have e1 := hlen _ _ _ _ hsp
    have hin : K.In s.heap := e0.mod.kin.keeps fun b o z => (e0.bs b o z).1
    have nl : s.heap.NoLimit := e0.mod.nolimit.keeps fun b o z => (e0.bs b o z).1
    have kinds : ∀ y ∈ ps.zip us, (defScope st).names.lookup y.1 = some .local ∨ ((defScope st).names.lookup y.1 = some .cell ∧ ((cellsFrom (s.heap.objs.size + 1) (defScope st).names []).lookup y.1).isSome = true) := by
      rintro ⟨n, v⟩ hy
      cases S.par n (List.of_mem_zip hy).1 with
      | inl q => exact Or.inl q
      | inr q => exact Or.inr ⟨q, PySem.W.cellsFrom_some _ _ _ (Or.inl q)⟩
    refine codeAny_call_function room.depth (hin _ _ lk) rfl S.co S.gen rfl (PySem.W.codeRec_of hin hcd) (hb _ _ _ _ ?_)
    refine wpAny_newFunctionEnv_cells S.kind kinds fun env ee s1 ic => ?_
    subst ee
    refine ⟨nl.keeps ic.toInCall.keep, codeAny_func ?_⟩
    obtain ⟨c0, ec0⟩ := code_ref hcd
    obtain ⟨t, pt, q⟩ := body cdv A outer s H vs Q E ⟨oc, od, osl, _, c0, lk, ec0, ec0⟩ hgd (room.deeper _) hsp
    have I0 : Inv (cxOf CX P w K mg base N qual (defScope st) f cdv A outer s H E) [] (start N vs) H s1 := inv_start S room.hd e0 e1 hv ic
    refine wpAny_mono (pt.run [] s1 (start N vs) H _ I0 q) (fun fl s' hs => ?_) fun e s' z => z
    have close : ∀ {σ' : L2.St} {H' : Hp} {v : V} {u : Value}, Inv (cxOf CX P w K mg base N qual (defScope st) f cdv A outer s H E) [] σ' H' s' → RelV v u → Q v H' → CE outer P w H s Q u s' := by
      intro σ' H' v u J r z
      exact ⟨v, H', J.os, J.bare, J.base, J.hok, r, z⟩
    cases fl with
    | next =>
      obtain ⟨σ', H', J, z⟩ := hs
      exact close (v := V.non) (u := Value.none) J rfl z
    | ret u =>
      obtain ⟨v, σ', H', J, r, z⟩ := hs
      exact close J r z
    | cont => exact (hs.choose_spec.choose_spec.2).elim
    | brk => exact (hs.choose_spec.choose_spec.2).elim
end Pu
/-! Pu6: argument rows, displays, calls of defs. -/
namespace Pu
open PySem PySem.Spec PyProof.Rows L2
/-- what is handed to a def -/
inductive Ar where
  | dat (d : D) | bag | ob (n : Nat)
def ArOk (K : PySem.W.Frag) (ba : Option Addr) (Hf : Hp) : Ar → V → Prop
  | .dat d, v => Rp K Hf d v
  | .bag, v => ∃ a, ba = some a ∧ v = .ref a
  | .ob n, v => ∃ a, v = .ref a ∧ Hf a = some (mk n)
def ArL (K : PySem.W.Frag) (ba : Option Addr) (Hf : Hp) : List Ar → List V → Prop
  | [], vs => vs = []
  | a :: as, vs => ∃ v r, vs = v :: r ∧ ArOk K ba Hf a v ∧ ArL K ba Hf as r
section
variable {K : PySem.W.Frag} {ba : Option Addr} {Hf Hf' : Hp}
theorem ArOk.mono (e : Same Hf Hf') {a : Ar} {v : V} (h : ArOk K ba Hf a v) : ArOk K ba Hf' a v := by
  cases a with
  | dat d => exact Rp.mono e _ _ h
  | bag => exact h
  | ob n => obtain ⟨a, h1, h2⟩ := h; exact ⟨a, h1, e _ _ h2⟩
theorem ArL.mono (e : Same Hf Hf') : ∀ {as : List Ar} {vs : List V}, ArL K ba Hf as vs → ArL K ba Hf' as vs
  | [], _, h => h
  | a :: as, _, ⟨v, r, h1, h2, h3⟩ => ⟨v, r, h1, ArOk.mono e h2, ArL.mono e h3⟩
theorem ArL.length : ∀ {as : List Ar} {vs : List V}, ArL K ba Hf as vs → vs.length = as.length
  | [], _, h => by
    have h' : _ = [] := h
    rw [h']; rfl
  | a :: as, _, ⟨v, r, h1, h2, h3⟩ => by rw [h1, List.length_cons, List.length_cons, ArL.length h3]
end
def datsOf : List Ar → Option (List D)
  | [] => some []
  | .dat d :: r => (datsOf r).map (d :: ·)
  | .bag :: _ => none
  | .ob _ :: _ => none
theorem dats_rp {K : PySem.W.Frag} {ba : Option Addr} {Hf : Hp} : ∀ {as : List Ar} {vs : List V} {ds : List D}, ArL K ba Hf as vs → datsOf as = some ds → RpL K Hf ds vs
  | [], vs, ds, h, e => by
    cases e
    have h' : vs = [] := h
    rw [h']; exact RpL.nil
  | .dat d :: as, vs, ds, ⟨v, r, h1, h2, h3⟩, e => by
    obtain ⟨es, e1, rfl⟩ := Option.map_eq_some_iff.mp e
    rw [h1]
    exact RpL.cons h2 (dats_rp h3 e1)
  | .bag :: as, _, _, _, e => by cases e
  | .ob _ :: as, _, _, _, e => by cases e
def retainA (r : Rv) : M Ar := fun s => match r with
  | .bag => some (s, .ok .bag)
  | .ob n => some (s, .ok (.ob n))
  | r => (M.bind (retain r) fun d => M.pure (.dat d)) s
def mArgs : List (M Rv) → M (List Ar)
  | [] => M.pure []
  | m :: ms => M.bind m fun r => M.bind (retainA r) fun a => M.bind (mArgs ms) fun as => M.pure (a :: as)
theorem retainA_ok {K : PySem.W.Frag} {ba : Option Addr} {O Hf H : Hp} {σ : St} {s : S} {v : V} {r : Rv} {ok : Ar → S → Prop} {ex : Exn → S → Prop} (R : Rep K ba O Hf H σ s) (h : RvOk K ba O Hf H σ s r v) (f : Fits (retainA r s) ok ex) :
    ∃ d s' Hf', ok d s' ∧ Same Hf Hf' ∧ Rep K ba O Hf' H σ s' ∧ ArOk K ba Hf' d v := by
  have gen : Fits ((M.bind (retain r) fun d => M.pure (Ar.dat d)) s) ok ex → ∃ d s' Hf', ok d s' ∧ Same Hf Hf' ∧ Rep K ba O Hf' H σ s' ∧ ArOk K ba Hf' d v := fun f => by
    obtain ⟨d, s', Hf', o, e, R', p⟩ := retain_ok R h f.bind
    exact ⟨.dat d, s', Hf', o, e, R', p⟩
  cases r with
  | bag => exact ⟨.bag, s, Hf, f, Same.refl _, R, h⟩
  | ob n => exact ⟨.ob n, s, Hf, f, Same.refl _, R, h⟩
  | _ => exact gen f
theorem mArgs_len : ∀ {ms : List (M Rv)} {s : S} {ok : List Ar → S → Prop} {ex : Exn → S → Prop}, Fits (mArgs ms s) ok ex → Fits (mArgs ms s) (fun as s' => as.length = ms.length ∧ ok as s') ex
  | [], s, ok, ex, h => ⟨rfl, h⟩
  | m :: ms, s, ok, ex, h => by
    unfold mArgs at h ⊢
    unfold M.bind at h ⊢
    cases e : m s with
    | none => simp only [e] at h; exact h
    | some q =>
      obtain ⟨s1, r⟩ := q
      cases r with
      | error x => simp only [e] at h ⊢; exact h
      | ok r =>
        simp only [e] at h ⊢
        cases e2 : retainA r s1 with
        | none => simp only [e2] at h; exact h
        | some q =>
          obtain ⟨s2, r2⟩ := q
          cases r2 with
          | error x => simp only [e2] at h ⊢; exact h
          | ok a =>
            simp only [e2] at h ⊢
            have ih := @mArgs_len ms s2 (fun as s' => ok (a :: as) s') ex
            cases e3 : mArgs ms s2 with
            | none => simp only [e3] at h; exact h
            | some q =>
              obtain ⟨s3, r3⟩ := q
              rw [e3] at ih
              cases r3 with
              | error x => simp only [e3] at h ⊢; exact h
              | ok as =>
                simp only [e3] at h ⊢
                obtain ⟨l, o⟩ := ih h
                exact ⟨by rw [List.length_cons, List.length_cons, l], o⟩
/-- the reading of an argument row -/
def tMA (K : PySem.W.Frag) (mg : Str → Option Value) (E : WX) (m : M (List Ar)) : TA := fun σ H Q => ∃ ba O Hf s, Rep K ba O Hf H σ s ∧
  Fits (m s) (fun as s' => ∀ vs H' Hf', Rep K ba O Hf' H' σ s' → Same Hf Hf' → ArL K ba Hf' as vs → Q vs H') (ExW K mg E ba O Hf σ)
abbrev EA (X : Cx) (E : WX) (es : List Expr) (ms : List (M Rv)) : Prop := PA X es (tMA X.K X.mg E (mArgs ms))
section
variable {X : Cx} {E : WX} {e : Expr} {es : List Expr} {m : M Rv} {ms : List (M Rv)} {pos : Pos}
theorem PA.conv {es : List Expr} {t t' : TA} (h : PA X es t) (c : ∀ σ H Q, t' σ H Q → t σ H Q) : PA X es t' := ⟨fun p pins s σ H Q I q => h.run p pins s σ H Q I (c σ H Q q)⟩
theorem ea_nil : EA X E [] [] := PA.conv pa_nil fun σ H Q q => by
  obtain ⟨ba, O, Hf, s, R, F⟩ := q
  exact F [] H Hf R (Same.refl _) rfl
theorem ea_cons (ha : EV X E e m) (hr : EA X E es ms) (hs : starEach (e :: es) X.env = (false, eval e X.env) :: starEach es X.env := by rfl) : EA X E (e :: es) (m :: ms) :=
  PA.conv (pa_cons ha hr hs) fun σ H Q q => by
    obtain ⟨ba, O, Hf, s, R0, F⟩ := q
    refine ⟨ba, O, Hf, s, R0, F.bind.imp (fun r s1 F1 v H1 Hf1 R1 e1 ok1 => ?_) fun x s' q => q⟩
    obtain ⟨a, s2, Hf2, F2, e2, R2, ok2⟩ := retainA_ok R1 ok1 F1.bind
    refine ⟨ba, O, Hf2, s2, R2, F2.bind.imp (fun as s3 F3 vs H3 Hf3 R3 e3 ok3 => ?_) fun x s' q => ExW.mono (Same.trans e1 e2) q⟩
    exact F3 (v :: vs) H3 Hf3 R3 (Same.trans e1 (Same.trans e2 e3)) ⟨v, vs, rfl, ArOk.mono e3 ok2, ok3⟩
/-! ### displays -/
def mTup (ms : List (M Rv)) : M Rv := M.bind (mArgs ms) fun as => M.bind (M.lift (datsOf as)) fun ds => M.pure (.dat (.tuple ds))
def mLst (ms : List (M Rv)) : M Rv := M.bind (mArgs ms) fun as => M.bind (M.lift (datsOf as)) fun ds => M.pure (.fresh ds)
theorem ev_tup {x1} (h : EA X E es ms) (hz : ms.length ≤ sizeLine := by decide) : EV X E (.Tuple es x1 pos) (mTup ms) :=
  PE.conv (pe_tup h) fun σ H Q q => by
    obtain ⟨ba, O, Hf, s, R0, F⟩ := q
    refine ⟨ba, O, Hf, s, R0, (mArgs_len F.bind).imp (fun as s1 F1 vs H1 Hf1 R1 e1 ok1 => ?_) fun x s' q => q⟩
    obtain ⟨l, F1⟩ := F1
    obtain ⟨ds, ed, F2⟩ := F1.bind.lift
    refine ⟨by rw [ok1.length, l]; exact hz, fun p hp => ?_⟩
    exact got_end (K := X.K) (res := .dat (.tuple ds)) R1 (fun v H' Hf' R' e' ok' => F2 v H' Hf' R' (Same.trans e1 e') ok') (.tup hp (dats_rp ok1 ed))
theorem ev_lst (h : EA X E es ms) (hz : ms.length ≤ sizeLine := by decide) : EV X E (.List es pos) (mLst ms) :=
  PE.conv (pe_lst h) fun σ H Q q => by
    obtain ⟨ba, O, Hf, s, R0, F⟩ := q
    refine ⟨ba, O, Hf, s, R0, (mArgs_len F.bind).imp (fun as s1 F1 vs H1 Hf1 R1 e1 ok1 => ?_) fun x s' q => q⟩
    obtain ⟨l, F1⟩ := F1
    obtain ⟨ds, ed, F2⟩ := F1.bind.lift
    refine ⟨by rw [ok1.length, l]; exact hz, fun p hp => ?_⟩
    exact got_end (K := X.K) (res := .fresh ds) R1 (fun v H' Hf' R' e' ok' => F2 v H' Hf' R' (Same.trans e1 e') ok') (.lst hp (dats_rp ok1 ed))
end
/-! ### defs -/
abbrev Fn := Bag → List Ar → Option (Bag × Except Exn Rs)
def RsOk (K : PySem.W.Frag) (ba : Option Addr) (O Hf H : Hp) : Rs → V → Prop
  | .dat d, v => Rp K Hf d v
  | .fresh ds, v => ∃ a, v = .ref a ∧ OwnAt K ba O Hf H ds a
  | .ob n, v => ∃ a, v = .ref a ∧ Hf a = some (mk n)
/-- the promise of a def whose meaning is f -/
def SpM (K : PySem.W.Frag) (mg : Str → Option Value) (n : Nat) (f : Fn) : Sp := fun vs H Q E => ∃ ba O Hf β as r β', as.length = n ∧ Reg K ba O Hf H β ∧ ArL K ba Hf as vs ∧ f β as = some (β', r) ∧
  match r with
  | .ok res => ∀ v H' Hf', Reg K ba O Hf' H' β' → Same Hf Hf' → RsOk K ba O Hf' H' res v → Q v H'
  | .error x => ∀ H' Hf' c d, Reg K ba O Hf' H' β' → Same Hf Hf' → ExOk K mg Hf' H' x c d → E c d H'
def mCall (f : Fn) (ms : List (M Rv)) : M Rv := M.bind (mArgs ms) fun as s => match f s.β as with
  | none => none
  | some (β', .ok r) => some ({ s with β := β' }, .ok r.rv)
  | some (β', .error x) => some ({ s with β := β' }, .error x)
section
open Classical
/-- what the callee's callers hold -/
noncomputable def callO (K : PySem.W.Frag) (ba : Option Addr) (Hf H : Hp) : Hp := fun a => if Hf a = none ∧ ba ≠ some a ∧ (∀ ps, H a ≠ some (.tbl ps)) then H a else none
theorem callO_reg {K : PySem.W.Frag} {ba : Option Addr} {O Hf H : Hp} {β : Bag} (R : Reg K ba O Hf H β) : Reg K ba (callO K ba Hf H) Hf H β where
  sub := R.sub
  out := fun a o e => by
    unfold callO at e
    split at e
    · exact e
    · cases e
  dis := fun a h => by
    unfold callO
    rw [if_neg fun z => h z.1]
  bag := fun a e => by
    obtain ⟨h1, h2, h3⟩ := R.bag a e
    refine ⟨h1, h2, ?_⟩
    unfold callO
    rw [if_neg fun z => z.2.1 e]
  tbs := ⟨fun p hp => by
    obtain ⟨h1, h2, _, h4⟩ := R.tbs.tab p hp
    refine ⟨h1, h2, ?_, h4⟩
    unfold callO
    obtain ⟨ps, e, _⟩ := h1
    rw [if_neg fun z => z.2.2 ps e], R.tbs.hf, fun a ps e => by
    unfold callO at e
    split at e
    · rename_i z
      exact z.2.2 ps e
    · cases e⟩
  obs := R.obs
theorem callO_at {K : PySem.W.Frag} {ba : Option Addr} {Hf H : Hp} {a : Addr} (h1 : Hf a = none) (h2 : ba ≠ some a) (h3 : ∀ ps, H a ≠ some (.tbl ps)) : callO K ba Hf H a = H a := by
  unfold callO
  rw [if_pos ⟨h1, h2, h3⟩]
theorem need_lst {H : Hp} {a : Addr} {vs : List V} (h : H a = some (.lst vs)) : ∀ ps, H a ≠ some (.tbl ps) := fun ps z => by
  rw [h] at z
  cases z
theorem need_out {K : PySem.W.Frag} {ba : Option Addr} {O Hf H : Hp} {β : Bag} {a : Addr} {o : HO} (R : Reg K ba O Hf H β) (h : O a = some o) : ∀ ps, H a ≠ some (.tbl ps) := fun ps z => by
  rw [R.out a o h] at z
  exact R.tbs.ho a ps (h.trans z)
/-- behind a call, the caller's own state -/
theorem Rep.back {K : PySem.W.Frag} {ba : Option Addr} {O Hf H Hf' H' : Hp} {σ : St} {s : S} {β' : Bag} (R : Rep K ba O Hf H σ s) (G : Reg K ba (callO K ba Hf H) Hf' H' β') (e : Same Hf Hf') : Rep K ba O Hf' H' σ { s with β := β' } := by
  have oc : ∀ {a : Addr} {o : HO}, O a = some o → callO K ba Hf H a = some o := fun {a o} h => by
    have h1 : Hf a = none := by
      cases q : Hf a with
      | none => rfl
      | some x =>
        have z := R.reg.dis a (by rw [q]; simp)
        rw [h] at z; cases z
    have h2 : ba ≠ some a := fun z => by
      obtain ⟨_, _, h3⟩ := R.reg.bag a z
      rw [h] at h3; cases h3
    rw [callO_at h1 h2 (need_out R.reg h)]
    exact R.reg.out a o h
  refine ⟨⟨G.sub, fun a o h => G.out a o (oc h), fun a h => ?_, fun a h => ?_, ⟨fun p hp => ⟨(G.tbs.tab p hp).1, (G.tbs.tab p hp).2.1, (R.reg.tbs.tab p hp).2.2.1, (G.tbs.tab p hp).2.2.2⟩, G.tbs.hf, R.reg.tbs.ho⟩, G.obs⟩, R.len, fun i sl x e1 e2 => ?_, R.uni⟩
  · cases q : O a with
    | none => rfl
    | some o =>
      have z := G.dis a h
      rw [oc q] at z; cases z
  · obtain ⟨h1, h2, _⟩ := G.bag a h
    exact ⟨h1, h2, (R.reg.bag a h).2.2⟩
  · have q := R.slot i sl x e1 e2
    cases sl with
    | no => trivial
    | dat d => obtain ⟨w, q1, q2⟩ := q; exact ⟨w, q1, Rp.mono e _ _ q2⟩
    | own es =>
      obtain ⟨b, q1, vs, h1, h2, h3, h4, h5⟩ := q
      have hc : callO K ba Hf H b = some (.lst vs) := by rw [callO_at h2 h4 (need_lst h1)]; exact h1
      refine ⟨b, q1, vs, G.out _ _ hc, ?_, h3, h4, RpL.mono e _ _ h5⟩
      cases z : Hf' b with
      | none => rfl
      | some o =>
        have z' := G.dis b (by rw [z]; simp)
        rw [hc] at z'; cases z'
    | bag => exact q
    | ob n => obtain ⟨b, q1, q2⟩ := q; exact ⟨b, q1, e _ _ q2⟩
theorem RsOk.back {K : PySem.W.Frag} {ba : Option Addr} {O Hf H Hf' H' : Hp} {σ : St} {s : S} {β' : Bag} {res : Rs} {v : V} (R : Rep K ba O Hf H σ s) (h : RsOk K ba (callO K ba Hf H) Hf' H' res v) : RvOk K ba O Hf' H' σ { s with β := β' } res.rv v := by
  cases res with
  | dat d => exact h
  | ob n => exact h
  | fresh ds =>
    obtain ⟨a, rfl, vs, h1, h2, h3, h4, h5⟩ := h
    refine ⟨a, rfl, ⟨vs, h1, h2, ?_, h4, h5⟩, fun i es e1 e2 => ?_⟩
    · cases q : O a with
      | none => rfl
      | some o =>
        have f1 : Hf a = none := by
          cases z : Hf a with
          | none => rfl
          | some x =>
            have z' := R.reg.dis a (by rw [z]; simp)
            rw [q] at z'; cases z'
        rw [callO_at f1 h4 (need_out R.reg q), R.reg.out a o q] at h3
        cases h3
    · obtain ⟨b, q1, ws, k1, k2, k3, k4, k5⟩ := R.slot i _ _ e1 e2
      cases q1
      rw [callO_at k2 k4 (need_lst k1), k1] at h3
      cases h3
end
section
variable {X : Cx} {E : WX} {k : Nat} {f : Addr} {fd : FuncData} {ps : List Str} {F : Fn} {x : Str} {p pos : Pos} {e : Expr} {es : List Expr} {ms : List (M Rv)}
theorem runG {sp : Sp} {pins : List (Addr × Obj)} {σ : St} {H : Hp} {s : Shared} {Q : VK} {us : List Value} {vs : List V} (G : FnG X.prog X.w X.K X.mg X.base (L2.CX X.prog X.w) k f fd ps sp) (hgd : X.A.guards = some []) (hr : Room k X.A) (hb : Binds X.K fd ps []) (tk : Takes X E)
    (I : Inv X pins σ H s) (r : Vals vs us) (h : sp vs H Q fun c d H' => E c d σ H') : wpAny (model X.prog X.w) X.A (call (.ref f) us) (EP X pins σ Q) X.xe s := by
  have hl : us.length = ps.length := by rw [← r.length]; exact G.len _ _ _ _ h
  have hb' := hb s us I.kIn (by rw [List.append_nil]; exact hl)
  rw [List.append_nil] at hb'
  refine wpAny_call (codeAny_mono (G.go X.A X.stack s H ⟨us, []⟩ us vs Q (fun c d H' => E c d σ H') hgd hr I.env0 hb' r h) fun z s' hq => ?_)
  match z, hq with
  | .error e, hq => exact tk e s' (XE.of_call I (fun _ _ _ z => z) hq)
  | .ok (.ret u), hq => exact I.after hq
/-- what stands behind the arguments of a call -/
theorem call_ask {σ : St} {H : Hp} {Q : VK} (q : tM X.K X.mg E (mCall F ms) σ H Q) : tMA X.K X.mg E (mArgs ms) σ H fun vs H1 => SpM X.K X.mg ms.length F vs H1 Q fun c d H' => E c d σ H' := by
  obtain ⟨ba, O, Hf, s, R0, F0⟩ := q
  refine ⟨ba, O, Hf, s, R0, (mArgs_len F0.bind).imp (fun as s1 F1 vs H1 Hf1 R1 e1 ok1 => ?_) fun x s' q => q⟩
  obtain ⟨l, F1⟩ := F1
  cases ef : F s1.β as with
  | none => simp only [ef] at F1; exact F1.elim
  | some q =>
    obtain ⟨β', r⟩ := q
    refine ⟨ba, callO X.K ba Hf1 H1, Hf1, s1.β, as, r, β', l, callO_reg R1.reg, ok1, ef, ?_⟩
    cases r with
    | ok res =>
      simp only [ef] at F1
      intro v H' Hf' G e2 ok2
      exact F1 v H' Hf' (R1.back G e2) (Same.trans e1 e2) (RsOk.back R1 ok2)
    | error x =>
      simp only [ef] at F1
      intro H' Hf' c d G e2 ok2
      exact F1 H' Hf' c d (R1.back G e2) (Same.trans e1 e2) ok2
theorem ev_call (G : FnG X.prog X.w X.K X.mg X.base (L2.CX X.prog X.w) k f fd ps (SpM X.K X.mg ms.length F)) (hgd : X.A.guards = some []) (hr : Room k X.A) (tk : Takes X E) (hg : Gl X x) (hm : X.mg x = some (.ref f)) (hk : PySem.W.keepIn X.K (.ref f) = true) (hb : Binds X.K fd ps [])
    (ha : EA X E (e :: es) ms) (hdb : (x == ("__debug__" : Str)) = false := by decide) (he : starEach (e :: es) X.env = (false, eval e X.env) :: starEach es X.env := by rfl) (hpl : (backTo pos (starEach es X.env)).any (·.1) = false := by rfl) :
    EV X E (.Call (.Name x p) (e :: es) [] pos) (mCall F ms) := by
  (refine ⟨fun pins s σ H Q I h => ?_⟩)
  (refine wpAny_Call_Name_kw (ld_glob I hg hm ?_ hdb))
  refine PySem.W.callWith_K (h₀ := X.base) I.ok.mod.kin hk (thn (ha.run pos pins s σ H _ I (call_ask h)) fun us s1 hz => ?_) he hpl
  obtain ⟨vs, H1, I1, r, q⟩ := hz
  exact ⟨I1.kIn, runG G hgd hr hb tk I1 r q⟩
end
end Pu
/-! Pu7: what is walked; statements. -/
namespace Pu
open PySem PySem.Spec PyProof.Rows L2
/-! ### what is walked -/
/-- a turn's item: as it stands, or a new tuple -/
def YOk (K : PySem.W.Frag) (Hf H H' : Hp) (x : V) (d : D) : Prop :=
  (H' = H ∧ Rp K Hf d x) ∨ ∃ T xs es, x = .ref T ∧ H T = none ∧ H' = upd H T (.tup xs) ∧ d = .tuple es ∧ RpL K Hf es xs
structure ItOk (K : PySem.W.Frag) (J : It) (Hf : Hp) (ds : List D) : Prop where
  go : ∀ (i : Nat) H, Sub Hf H → i < ds.length → J.go i H
  yld : ∀ (i : Nat) H x H' d, Sub Hf H → ds[i]? = some d → J.yld i H x H' → YOk K Hf H H' x d
  stop : ∀ (i : Nat) H, Sub Hf H → i = ds.length → J.stop i H
theorem YOk.mono {K : PySem.W.Frag} {Hf Hf' H H' : Hp} {x : V} {d : D} (e : Same Hf Hf') (h : YOk K Hf H H' x d) : YOk K Hf' H H' x d := by
  rcases h with ⟨h1, h2⟩ | ⟨T, xs, es, h1, h2, h3, h4, h5⟩
  · exact .inl ⟨h1, Rp.mono e _ _ h2⟩
  · exact .inr ⟨T, xs, es, h1, h2, h3, h4, RpL.mono e _ _ h5⟩
theorem ItOk.mono {K : PySem.W.Frag} {J : It} {Hf Hf' : Hp} {ds : List D} (e : Same Hf Hf') (h : ItOk K J Hf ds) : ItOk K J Hf' ds :=
  ⟨fun i H s => h.go i H (Sub.pre s e), fun i H x H' d s a y => (h.yld i H x H' d (Sub.pre s e) a y).mono e, fun i H s => h.stop i H (Sub.pre s e)⟩
/-- the item, taken into the state -/
theorem Rep.item {K : PySem.W.Frag} {ba : Option Addr} {O Hf H H' : Hp} {σ : St} {s : S} {x : V} {d : D} (R : Rep K ba O Hf H σ s) (y : YOk K Hf H H' x d) : ∃ Hf', Same Hf Hf' ∧ Rep K ba O Hf' H' σ s ∧ Rp K Hf' d x := by
  rcases y with ⟨rfl, h⟩ | ⟨T, xs, es, rfl, h2, rfl, rfl, h5⟩
  · exact ⟨Hf, Same.refl _, R, h⟩
  · exact R.got (.tup h2 h5)
abbrev iM (K : PySem.W.Frag) (mg : Str → Option Value) (E : WX) (m : M (List D)) : TI := fun σ H R => ∃ ba O Hf s, Rep K ba O Hf H σ s ∧
  Fits (m s) (fun ds s' => ∀ J H' Hf', Rep K ba O Hf' H' σ s' → Same Hf Hf' → ItOk K J Hf' ds → R J H') (ExW K mg E ba O Hf σ)
abbrev EI (X : Cx) (E : WX) (tg iter : Expr) (m : M (List D)) : Prop := PI X tg iter (iM X.K X.mg E m)
def mSeq (m : M Rv) : M (List D) := M.bind m fun r => M.bind (retain r) fun d => match d with
  | .list ds => M.pure ds
  | .tuple ds => M.pure ds
  | _ => M.stuck
def rangeD (lo : Int) (n : Nat) : List D := (List.range n).map fun (i : Nat) => .int (lo + i)
def small62 (i : Int) : Bool := decide (-(2 ^ 62) ≤ i) && decide (i < 2 ^ 62)
def mRng1 (m : M Rv) : M (List D) := M.bind m fun r => match r with
  | .dat (.int j) => if small62 j then M.pure (rangeD 0 j.toNat) else M.stuck
  | _ => M.stuck
def mRng2 (m1 m2 : M Rv) : M (List D) := M.bind m1 fun r1 => M.bind m2 fun r2 => match r1, r2 with
  | .dat (.int i), .dat (.int j) => if small62 i && small62 j then M.pure (rangeD i (j - i).toNat) else M.stuck
  | _, _ => M.stuck
theorem retain_ok_only {r : Rv} {s s' : S} {x : Exn} (h : retain r s = some (s', .error x)) : False := by
  cases r with
  | dat d => cases h
  | fresh ds => cases h
  | bag => cases h
  | ob n => cases h
  | freshK kvs => cases h
  | slot i =>
    unfold retain at h
    simp only at h
    cases e : s.ρ[i]? with
    | none => (rw [e] at h; cases h)
    | some sl =>
      rw [e] at h
      cases sl <;> cases h
section
variable {X : Cx} {E : WX} {tg : Expr}
theorem PI.conv {e : Expr} {t t' : TI} (h : PI X tg e t) (c : ∀ σ H R, t' σ H R → t σ H R) : PI X tg e t' := ⟨fun pins s σ H R I q => h.run pins s σ H R I (c σ H R q)⟩
theorem PI.or {e : Expr} {t t' : TI} (h : PI X tg e t) (h' : PI X tg e t') : PI X tg e fun σ H R => t σ H R ∨ t' σ H R :=
  ⟨fun pins s σ H R I q => by
    rcases q with q | q
    · exact h.run pins s σ H R I q
    · exact h'.run pins s σ H R I q⟩
theorem itok_list {K : PySem.W.Frag} {Hf : Hp} {a : Addr} {vs : List V} {ds : List D} (h1 : SqL K Hf a vs) (h2 : RpL K Hf ds vs) : ItOk K (Itl K a) Hf ds where
  go := fun i H s hi => by
    obtain ⟨v, e, _⟩ := h2.get (List.getElem?_eq_getElem hi)
    exact ⟨vs, v, Sub.sqL s h1, e⟩
  yld := fun i H x H' d s e y => by
    obtain ⟨v, e1, r⟩ := h2.get e
    have e2 := y.2 vs (Sub.sqL s h1)
    rw [e1] at e2
    cases e2
    exact .inl ⟨y.1, r⟩
  stop := fun i H s hi => ⟨vs, Sub.sqL s h1, by rw [h2.length]; omega⟩
theorem itok_tup {K : PySem.W.Frag} {Hf : Hp} {a : Addr} {vs : List V} {ds : List D} (h1 : SqT K Hf a vs) (h2 : RpL K Hf ds vs) : ItOk K (Itt K a) Hf ds where
  go := fun i H s hi => by
    obtain ⟨v, e, _⟩ := h2.get (List.getElem?_eq_getElem hi)
    exact ⟨vs, v, Sub.sqT s h1, e⟩
  yld := fun i H x H' d s e y => by
    obtain ⟨v, e1, r⟩ := h2.get e
    have e2 := y.2 vs (Sub.sqT s h1)
    rw [e1] at e2
    cases e2
    exact .inl ⟨y.1, r⟩
  stop := fun i H s hi => ⟨vs, Sub.sqT s h1, by rw [h2.length]; omega⟩
theorem itok_range {K : PySem.W.Frag} {Hf : Hp} {lo : Int} {n : Nat} : ItOk K (Itr lo n) Hf (rangeD lo n) where
  go := fun i H s hi => by
    have e : (rangeD lo n).length = n := by simp [rangeD]
    rw [e] at hi
    exact hi
  yld := fun i H x H' d s e y => by
    obtain ⟨rfl, rfl⟩ := y
    have hi : i < n := by
      have := (List.getElem?_eq_some_iff.mp e).1
      simpa [rangeD] using this
    have e' : d = .int (lo + i) := by
      simp only [rangeD, List.getElem?_map, List.getElem?_range hi, Option.map_some] at e
      exact (Option.some.inj e).symm
    subst e'
    exact .inl ⟨rfl, by simp only [Rp]⟩
  stop := fun i H s hi => by
    have e : (rangeD lo n).length = n := by simp [rangeD]
    rw [e] at hi
    exact Nat.le_of_eq hi.symm
theorem ei_seq {l : Expr} {m : M Rv} (h : EV X E l m) : EI X E tg l (mSeq m) := PI.conv (PI.or (pi_list h) (pi_tup h)) fun σ H R q => by
  obtain ⟨ba, O, Hf, s, R0, F⟩ := q
  have F := F.bind
  -- which of the two is told by the meaning
  cases e : m s with
  | none => rw [e] at F; exact F.elim
  | some q =>
    obtain ⟨s1, r⟩ := q
    rw [e] at F
    cases r with
    | error x => exact .inl ⟨ba, O, Hf, s, R0, by rw [e]; exact F⟩
    | ok r =>
      have F1 : Fits (retain r s1) _ _ := Fits.bind F
      cases e2 : retain r s1 with
      | none => rw [e2] at F1; exact F1.elim
      | some q =>
        obtain ⟨s2, r2⟩ := q
        cases r2 with
        | error x =>
          refine .inl ⟨ba, O, Hf, s, R0, ?_⟩
          rw [e]
          intro v H1 Hf1 R1 e1 ok1
          exact (retain_ok_only e2).elim
        | ok d =>
          have keep : ∀ (v : V) (H1 Hf1 : Hp), Rep X.K ba O Hf1 H1 σ s1 → RvOk X.K ba O Hf1 H1 σ s1 r v → ∃ Hf2, Same Hf1 Hf2 ∧ Rep X.K ba O Hf2 H1 σ s2 ∧ Rp X.K Hf2 d v := fun v H1 Hf1 R1 ok1 => by
            obtain ⟨d', s', Hf', o, e', R', p⟩ := retain_ok (ok := fun a b => a = d ∧ b = s2) (ex := fun _ _ => False) R1 ok1 (by rw [e2]; exact ⟨rfl, rfl⟩)
            obtain ⟨rfl, rfl⟩ := o
            exact ⟨Hf', e', R', p⟩
          rw [e2] at F1
          cases d with
          | list ds =>
            refine .inl ⟨ba, O, Hf, s, R0, ?_⟩
            rw [e]
            intro v H1 Hf1 R1 e1 ok1
            obtain ⟨Hf2, e3, R2, p⟩ := keep v H1 Hf1 R1 ok1
            simp only [Rp] at p
            obtain ⟨a, vs, rfl, h1, h2⟩ := p
            exact ⟨a, rfl, ⟨vs, Sub.sqL R2.reg.sub h1⟩, F1 _ H1 Hf2 R2 (Same.trans e1 e3) (itok_list h1 h2)⟩
          | tuple ds =>
            refine .inr ⟨ba, O, Hf, s, R0, ?_⟩
            rw [e]
            intro v H1 Hf1 R1 e1 ok1
            obtain ⟨Hf2, e3, R2, p⟩ := keep v H1 Hf1 R1 ok1
            simp only [Rp] at p
            obtain ⟨a, vs, rfl, h1, h2⟩ := p
            exact ⟨a, rfl, ⟨vs, Sub.sqT R2.reg.sub h1⟩, F1 _ H1 Hf2 R2 (Same.trans e1 e3) (itok_tup h1 h2)⟩
          | _ => exact F1.elim
theorem small62_of {i : Int} (h : small62 i = true) : -(2 ^ 62) ≤ i ∧ i < 2 ^ 62 := by
  simpa only [small62, Bool.and_eq_true, decide_eq_true_eq] using h
theorem ei_rng1 {a : Expr} {m : M Rv} {p pos : Pos} (hg : Gl X "range") (hm : X.mg "range" = none) (ha : EV X E a m) (hs : starEach [a] X.env = [(false, eval a X.env)] := by rfl) : EI X E tg (.Call (.Name "range" p) [a] [] pos) (mRng1 m) :=
  PI.conv (pi_range1 hg hm (pa_cons ha pa_nil (by rw [hs]; rfl)) hs) fun σ H R q => by
    obtain ⟨ba, O, Hf, s, R0, F⟩ := q
    refine ⟨ba, O, Hf, s, R0, F.bind.imp (fun r s1 F1 v H1 Hf1 R1 e1 ok1 => ?_) fun x s' q => q⟩
    cases r with
    | dat d =>
      cases d with
      | int j =>
        by_cases hj : small62 j = true
        · simp only [hj] at F1
          obtain ⟨h1, h2⟩ := small62_of hj
          exact ⟨j, by rw [rp_int (K := X.K) (Hf := Hf1) ok1], h1, h2, F1 _ H1 Hf1 R1 e1 itok_range⟩
        · simp only [hj] at F1
          exact F1.elim
      | _ => exact F1.elim
    | _ => exact F1.elim
theorem ei_rng2 {a b : Expr} {m1 m2 : M Rv} {p pos : Pos} (hg : Gl X "range") (hm : X.mg "range" = none) (ha : EV X E a m1) (hb : EV X E b m2) (hs : starEach [a, b] X.env = [(false, eval a X.env), (false, eval b X.env)] := by rfl) (hs2 : starEach [b] X.env = [(false, eval b X.env)] := by rfl) :
    EI X E tg (.Call (.Name "range" p) [a, b] [] pos) (mRng2 m1 m2) :=
  PI.conv (pi_range2 hg hm (pa_cons ha (pa_cons hb pa_nil (by rw [hs2]; rfl)) (by rw [hs, hs2])) hs hs2) fun σ H R q => by
    obtain ⟨ba, O, Hf, s, R0, F⟩ := q
    refine ⟨ba, O, Hf, s, R0, F.bind.imp (fun r s1 F1 v H1 Hf1 R1 e1 ok1 => ?_) fun x s' q => q⟩
    refine ⟨ba, O, Hf1, s1, R1, F1.bind.imp (fun r2 s2 F2 v2 H2 Hf2 R2 e2 ok2 => ?_) fun x s' q => ExW.mono e1 q⟩
    cases r with
    | dat d =>
      cases d with
      | int i =>
        cases r2 with
        | dat d2 =>
          cases d2 with
          | int j =>
            by_cases hj : (small62 i && small62 j) = true
            · simp only [hj] at F2
              have hj' := hj
              rw [Bool.and_eq_true] at hj'
              obtain ⟨h1, h2⟩ := small62_of hj'.1
              obtain ⟨h3, h4⟩ := small62_of hj'.2
              exact ⟨i, j, by rw [rp_int (K := X.K) (Hf := Hf1) ok1, rp_int (K := X.K) (Hf := Hf2) ok2], ⟨h1, h2, h3, h4⟩, F2 _ H2 Hf2 R2 (Same.trans e1 e2) itok_range⟩
            · simp only [hj] at F2
              exact F2.elim
          | _ => exact F2.elim
        | _ => exact F2.elim
      | _ => cases r2 with
        | dat d2 => exact F2.elim
        | _ => exact F2.elim
    | _ => cases r2 with
      | dat d2 => exact F2.elim
      | _ => exact F2.elim
end
/-! ### statements -/
inductive Fl where
  | nx | rt (r : Rv) | bk | ct
def EndOk (K : PySem.W.Frag) (ba : Option Addr) (O Hf H : Hp) (σ : St) (s : S) (D : Ends) : Fl → Prop
  | .nx => D.nx σ H
  | .bk => D.bk σ H
  | .ct => D.ct σ H
  | .rt r => ∀ v, RvOk K ba O Hf H σ s r v → D.rt v H
/-- the exceptions' half of a statement -/
abbrev ExS (K : PySem.W.Frag) (mg : Str → Option Value) (E : WX) (ba : Option Addr) (O Hf : Hp) : Exn → S → Prop :=
  fun x s' => ∀ σ' H' Hf' c d, Rep K ba O Hf' H' σ' s' → Same Hf Hf' → ExOk K mg Hf' H' x c d → E c d σ' H'
theorem ExS.mono {K : PySem.W.Frag} {mg : Str → Option Value} {E : WX} {ba : Option Addr} {O Hf Hf1 : Hp} (e : Same Hf Hf1) {x : Exn} {s' : S} (h : ExS K mg E ba O Hf x s') : ExS K mg E ba O Hf1 x s' :=
  fun σ' H' Hf' c d r k ex => h σ' H' Hf' c d r (Same.trans e k) ex
theorem ExS.at {K : PySem.W.Frag} {mg : Str → Option Value} {E : WX} {ba : Option Addr} {O Hf : Hp} {σ : St} {x : Exn} {s' : S} (h : ExS K mg E ba O Hf x s') : ExW K mg E ba O Hf σ x s' := fun H' Hf' c d => h σ H' Hf' c d
def tMS (K : PySem.W.Frag) (mg : Str → Option Value) (E : WX) (m : M Fl) : TS := fun D σ H => ∃ ba O Hf s, Rep K ba O Hf H σ s ∧
  Fits (m s) (fun fl s' => ∀ σ' H' Hf', Rep K ba O Hf' H' σ' s' → Same Hf Hf' → EndOk K ba O Hf' H' σ' s' D fl) (ExS K mg E ba O Hf)
abbrev ES (X : Cx) (E : WX) (st : Stmt) (m : M Fl) : Prop := PS X st (tMS X.K X.mg E m)
abbrev ESs (X : Cx) (E : WX) (st : List Stmt) (m : M Fl) : Prop := PSs X st (tMS X.K X.mg E m)
def mThen (m n : M Fl) : M Fl := M.bind m fun f => match f with
  | .nx => n
  | f => M.pure f
def mNx : M Fl := M.pure .nx
def mIfS (t : M Bool) (m n : M Fl) : M Fl := M.bind t fun b => if b then m else n
def mRet (m : M Rv) : M Fl := M.bind m fun r => M.pure (.rt r)
def mRetN : M Fl := M.pure (.rt (.dat .none))
def mExpr (m : M Rv) : M Fl := M.bind m fun _ => M.pure .nx
/-- a name's new content -/
def slOf : Rv → Option Sl
  | .dat d => some (.dat d)
  | .fresh ds => some (.own ds)
  | _ => none
def mStore (i : Nat) (r : Rv) : M Unit := fun s => match r with
  | .dat d => some ({ s with ρ := s.ρ.set i (.dat d) }, .ok ())
  | .fresh ds => some ({ s with ρ := s.ρ.set i (.own ds) }, .ok ())
  | .slot j => match s.ρ[j]? with
    | some (.own ds) => some ({ s with ρ := (s.ρ.set j (.dat (.list ds))).set i (.dat (.list ds)) }, .ok ())
    | _ => none
  | .bag => some ({ s with ρ := s.ρ.set i .bag }, .ok ())
  | .ob n => some ({ s with ρ := s.ρ.set i (.ob n) }, .ok ())
  | .freshK kvs => some ({ s with ρ := s.ρ.set i (.dat (.dict kvs)) }, .ok ())
def mSet (i : Nat) (m : M Rv) : M Fl := M.bind m fun r => M.bind (mStore i r) fun _ => M.pure .nx
section
variable {K : PySem.W.Frag} {ba : Option Addr} {O Hf H : Hp} {σ : St} {s : S} {v : V} {i : Nat}
theorem Rep.store {sl : Sl} (R : Rep K ba O Hf H σ s) (h : SlOk K ba O Hf H sl (some v)) (u : ∀ ds, sl = .own ds → ∀ (j : Nat) es, j ≠ i → s.ρ[j]? = some (.own es) → σ[j]? ≠ some (some v)) : Rep K ba O Hf H (σ.set i (some v)) { s with ρ := s.ρ.set i sl } := by
  refine ⟨R.reg, by simp only [List.length_set]; exact R.len, fun j sl' x e1 e2 => ?_, fun j k ds es x ne e1 e2 e3 => ?_⟩
  · by_cases ji : i = j
    · subst ji
      have hi : i < s.ρ.length := by
        have := (List.getElem?_eq_some_iff.mp e1).1
        simpa using this
      rw [List.getElem?_set_self hi] at e1
      rw [List.getElem?_set_self (by rw [← R.len]; exact hi)] at e2
      cases e1
      cases e2
      exact h
    · rw [List.getElem?_set_ne ji] at e1 e2
      exact R.slot j sl' x e1 e2
  · by_cases ji : i = j
    · subst ji
      have hi : i < s.ρ.length := by
        have := (List.getElem?_eq_some_iff.mp e1).1
        simpa using this
      rw [List.getElem?_set_self hi] at e1
      rw [List.getElem?_set_self (by rw [← R.len]; exact hi)] at e3
      cases e1
      cases e3
      rw [List.getElem?_set_ne ne] at e2 ⊢
      exact u ds rfl k es ne.symm e2
    · rw [List.getElem?_set_ne ji] at e1 e3
      by_cases ki : i = k
      · subst ki
        have hi : i < s.ρ.length := by
          have := (List.getElem?_eq_some_iff.mp e2).1
          simpa using this
        rw [List.getElem?_set_self hi] at e2
        cases e2
        rw [List.getElem?_set_self (by rw [← R.len]; exact hi)]
        intro z
        rw [← z] at e3
        exact u es rfl j ds ne e1 e3
      · rw [List.getElem?_set_ne ki] at e2 ⊢
        exact R.uni j k ds es x ne e1 e2 e3
theorem mStore_ok {r : Rv} {ok : Unit → S → Prop} {ex : Exn → S → Prop} (R : Rep K ba O Hf H σ s) (h : RvOk K ba O Hf H σ s r v) (f : Fits (mStore i r s) ok ex) : ∃ s' Hf', ok () s' ∧ Same Hf Hf' ∧ Rep K ba O Hf' H (σ.set i (some v)) s' := by
  cases r with
  | dat d => exact ⟨_, Hf, f, Same.refl _, R.store (sl := .dat d) ⟨v, rfl, h⟩ fun ds z => nomatch z⟩
  | bag =>
    obtain ⟨a, h1, rfl⟩ := h
    exact ⟨_, Hf, f, Same.refl _, R.store (sl := .bag) ⟨a, h1, rfl⟩ fun ds z => nomatch z⟩
  | ob n =>
    obtain ⟨a, rfl, h1⟩ := h
    exact ⟨_, Hf, f, Same.refl _, R.store (sl := .ob n) ⟨a, rfl, h1⟩ fun ds z => nomatch z⟩
  | freshK kvs =>
    obtain ⟨Hf', e, R', p⟩ := R.freezeK h
    exact ⟨_, Hf', f, e, R'.store (sl := .dat (.dict kvs)) ⟨v, rfl, p⟩ fun ds z => nomatch z⟩
  | fresh ds =>
    obtain ⟨a, rfl, h1, h2⟩ := h
    exact ⟨_, Hf, f, Same.refl _, R.store (sl := .own ds) ⟨a, rfl, h1⟩ fun _ _ j es _ e => h2 j es e⟩
  | slot j =>
    obtain ⟨ds, h1, h2⟩ := h
    unfold mStore at f
    simp only [h1] at f
    obtain ⟨Hf', e, R', p⟩ := R.freezeSlot h1 h2
    exact ⟨_, Hf', f, e, R'.store (sl := .dat (.list ds)) ⟨v, rfl, p⟩ fun ds z => nomatch z⟩
end
section
variable {X : Cx} {E : WX} {st : Stmt} {rest : List Stmt} {e : Expr} {m n : M Fl} {mr : M Rv} {t : M Bool} {pos : Pos}
theorem tMS.bind {α : Type} {g : M α} {f : α → M Fl} {ba : Option Addr} {O Hf : Hp} {s : S} {D : Ends} (h : Fits ((M.bind g f) s) (fun fl s' => ∀ σ' H' Hf', Rep X.K ba O Hf' H' σ' s' → Same Hf Hf' → EndOk X.K ba O Hf' H' σ' s' D fl) (ExS X.K X.mg E ba O Hf))
    {ok : α → S → Prop} {σ : St} (k : ∀ a s', Fits (f a s') (fun fl s' => ∀ σ' H' Hf', Rep X.K ba O Hf' H' σ' s' → Same Hf Hf' → EndOk X.K ba O Hf' H' σ' s' D fl) (ExS X.K X.mg E ba O Hf) → ok a s') : Fits (g s) ok (ExW X.K X.mg E ba O Hf σ) :=
  h.bind.imp k fun x s' q => q.at
theorem end_mono {ba : Option Addr} {O Hf Hf1 : Hp} {s : S} {D : Ends} {m : M Fl} (e : Same Hf Hf1) (h : Fits (m s) (fun fl s' => ∀ σ' H' Hf', Rep X.K ba O Hf' H' σ' s' → Same Hf Hf' → EndOk X.K ba O Hf' H' σ' s' D fl) (ExS X.K X.mg E ba O Hf)) :
    Fits (m s) (fun fl s' => ∀ σ' H' Hf', Rep X.K ba O Hf' H' σ' s' → Same Hf1 Hf' → EndOk X.K ba O Hf' H' σ' s' D fl) (ExS X.K X.mg E ba O Hf1) :=
  h.imp (fun fl s' q σ' H' Hf' R e' => q σ' H' Hf' R (Same.trans e e')) fun x s' q => ExS.mono e q
theorem ess_nil : ESs X E [] mNx := PSs.conv pss_nil fun D σ H q => by
  obtain ⟨ba, O, Hf, s, R, F⟩ := q
  exact F σ H Hf R (Same.refl _)
theorem ess_cons (h1 : ES X E st m) (h2 : ESs X E rest n) : ESs X E (st :: rest) (mThen m n) := PSs.conv (pss_cons h1 h2) fun D σ H q => by
  obtain ⟨ba, O, Hf, s, R, F⟩ := q
  refine ⟨ba, O, Hf, s, R, F.bind.imp (fun fl s' F' σ' H' Hf' R' e' => ?_) fun x s' q => q⟩
  cases fl with
  | nx => exact ⟨ba, O, Hf', s', R', end_mono e' F'⟩
  | bk => exact F' σ' H' Hf' R' e'
  | ct => exact F' σ' H' Hf' R' e'
  | rt r => exact F' σ' H' Hf' R' e'
theorem ess_one (h : ES X E st m) : ESs X E [st] m := pss_one h
theorem es_pass : ES X E (.Pass pos) mNx := PS.conv ps_pass fun D σ H q => by
  obtain ⟨ba, O, Hf, s, R, F⟩ := q
  exact F σ H Hf R (Same.refl _)
theorem es_break : ES X E (.Break pos) (M.pure .bk) := PS.conv ps_break fun D σ H q => by
  obtain ⟨ba, O, Hf, s, R, F⟩ := q
  exact F σ H Hf R (Same.refl _)
theorem es_continue : ES X E (.Continue pos) (M.pure .ct) := PS.conv ps_continue fun D σ H q => by
  obtain ⟨ba, O, Hf, s, R, F⟩ := q
  exact F σ H Hf R (Same.refl _)
theorem es_expr (he : EV X E e mr) (hs : swapsWith e none pos.line X.env = pure false := by rfl) : ES X E (.Expr e pos) (mExpr mr) := PS.conv (ps_expr he hs) fun D σ H q => by
  obtain ⟨ba, O, Hf, s, R, F⟩ := q
  exact ⟨ba, O, Hf, s, R, tMS.bind F fun r s' F' v H' Hf' R' e' ok => F' σ H' Hf' R' e'⟩
theorem es_ret (he : EV X E e mr) : ES X E (.Return (some e) pos) (mRet mr) := PS.conv (ps_ret he) fun D σ H q => by
  obtain ⟨ba, O, Hf, s, R, F⟩ := q
  exact ⟨ba, O, Hf, s, R, tMS.bind F fun r s' F' v H' Hf' R' e' ok => F' σ H' Hf' R' e' v ok⟩
theorem es_retN : ES X E (.Return none pos) mRetN := PS.conv ps_retN fun D σ H q => by
  obtain ⟨ba, O, Hf, s, R, F⟩ := q
  exact F σ H Hf R (Same.refl _) .non (show Rp X.K Hf .none .non by simp only [Rp])
theorem es_if {c : Expr} {a b : List Stmt} (hc : ET X E c t) (ha : ESs X E a m) (hb : ESs X E b n) : ES X E (.If c a b pos) (mIfS t m n) := PS.conv (ps_if hc ha hb) fun D σ H q => by
  obtain ⟨ba, O, Hf, s, R, F⟩ := q
  refine ⟨ba, O, Hf, s, R, tMS.bind F fun b s' F' H' Hf' R' e' => ?_⟩
  cases b with
  | true => exact ⟨ba, O, Hf', s', R', end_mono e' F'⟩
  | false => exact ⟨ba, O, Hf', s', R', end_mono e' F'⟩
/-- never come to -/
theorem es_never : ES X E st M.stuck := PS.conv ps_never fun D σ H q => by
  obtain ⟨ba, O, Hf, s, R, F⟩ := q
  exact F
theorem es_set {i : Nat} {x : Str} {pos' : Pos} (hN : X.N.Nodup) (hi : X.N[i]? = some x) (hx : Loc X.env.scope x) (he : EV X E e mr) (hs : swapsWith e (some (.Name x pos')) pos.line X.env = pure false := by rfl) (hf : X.fn x = true ∨ X.env.scope.names.lookup x = some .local := by first | exact .inl rfl | exact .inr rfl | assumption) :
    ES X E (.Assign [.Name x pos'] e pos) (mSet i mr) := PS.conv (ps_set hN hi hx he hs hf) fun D σ H q => by
  obtain ⟨ba, O, Hf, s, R, F⟩ := q
  refine ⟨ba, O, Hf, s, R, tMS.bind F fun r s' F' v H' Hf' R' e' ok => ?_⟩
  obtain ⟨s2, Hf2, F2, e2, R2⟩ := mStore_ok R' ok F'.bind
  exact F2 _ H' Hf2 R2 (Same.trans e' e2)
end
end Pu
/-! Pu8: targets, loops, what a name's own list may suffer. -/
namespace Pu
open PySem PySem.Spec PyProof.Rows L2
/-! ### targets -/
/-- none but these slots are changed -/
def Only (vs : List Nat) (σ σ' : St) : Prop := σ'.length = σ.length ∧ ∀ i : Nat, i ∉ vs → σ'[i]? = σ[i]?
theorem Only.refl (vs : List Nat) (σ : St) : Only vs σ σ := ⟨rfl, fun _ _ => rfl⟩
theorem Only.trans {vs : List Nat} {a b c : St} (h : Only vs a b) (k : Only vs b c) : Only vs a c := ⟨k.1.trans h.1, fun i hi => (k.2 i hi).trans (h.2 i hi)⟩
theorem Only.more {vs ws : List Nat} {a b : St} (h : Only vs a b) (s : ∀ i ∈ vs, i ∈ ws) : Only ws a b := ⟨h.1, fun i hi => h.2 i fun z => hi (s i z)⟩
theorem Only.set {i : Nat} {v : Option V} (σ : St) : Only [i] σ (σ.set i v) := ⟨by rw [List.length_set], fun j hj => by
  have : i ≠ j := fun z => hj (by simp [z])
  rw [List.getElem?_set_ne this]⟩
theorem wipe_in {σ : St} {i : Nat} : ∀ {vs : List Nat}, i ∈ vs → i < σ.length → (wipe σ vs)[i]? = some none
  | v :: vs, h, hl => by
    unfold wipe
    by_cases e : v = i
    · subst e
      rw [List.getElem?_set_self (by rw [wipe_length]; exact hl)]
    · rw [List.getElem?_set_ne e]
      (rcases List.mem_cons.mp h with z | z)
      · exact absurd z.symm e
      · exact wipe_in z hl
theorem wipe_not {σ : St} {i : Nat} : ∀ {vs : List Nat}, i ∉ vs → (wipe σ vs)[i]? = σ[i]?
  | [], _ => rfl
  | v :: vs, h => by
    unfold wipe
    have h1 : v ≠ i := fun z => h (by rw [z]; exact List.mem_cons_self)
    rw [List.getElem?_set_ne h1]
    exact wipe_not fun z => h (List.mem_cons_of_mem _ z)
theorem Only.wipe {vs ws : List Nat} {a b : St} (h : Only vs a b) (s : ∀ i ∈ vs, i ∈ ws) : wipe b ws = wipe a ws := by
  refine List.ext_getElem? fun i => ?_
  by_cases hi : i ∈ ws
  · by_cases hl : i < a.length
    · rw [wipe_in hi hl, wipe_in hi (by rw [h.1]; exact hl)]
    · rw [List.getElem?_eq_none (by rw [wipe_length, h.1]; omega), List.getElem?_eq_none (by rw [wipe_length]; omega)]
  · rw [wipe_not hi, wipe_not hi, h.2 i fun z => hi (s i z)]
theorem Only.of_wipe {vs : List Nat} (a : St) : Only vs a (L2.wipe a vs) := ⟨wipe_length _ _, fun i hi => wipe_not hi⟩
def setDat (i : Nat) (d : D) : M Unit := fun s => some ({ s with ρ := s.ρ.set i (.dat d) }, .ok ())
/-- a target: the names' slots; for a tuple its parts -/
inductive Tg where
  | nm (i : Nat) | tup (ts : List Tg)
mutual
def Tg.slots : Tg → List Nat
  | .nm i => [i]
  | .tup ts => Tg.slotsL ts
def Tg.slotsL : List Tg → List Nat
  | [] => []
  | t :: ts => t.slots ++ Tg.slotsL ts
end
mutual
def Tg.put : Tg → D → M Unit
  | .nm i, d => setDat i d
  | .tup ts, .tuple ds => if ds.length = ts.length then Tg.putL ts ds else M.stuck
  | .tup _, _ => M.stuck
def Tg.putL : List Tg → List D → M Unit
  | [], _ => M.pure ()
  | t :: ts, d :: ds => M.bind (t.put d) fun _ => Tg.putL ts ds
  | _ :: _, [] => M.stuck
end
/-- the reading of a target -/
def tMG (K : PySem.W.Frag) (vs : List Nat) (p : D → M Unit) : TG := fun v σ H Q => ∃ ba O Hf s d, Rep K ba O Hf H σ s ∧ Rp K Hf d v ∧
  Fits (p d s) (fun _ s' => ∀ σ' H' Hf', Rep K ba O Hf' H' σ' s' → Same Hf Hf' → Only vs σ σ' → Q σ' H') fun _ _ => False
def tMGs (K : PySem.W.Frag) (vs : List Nat) (p : List D → M Unit) : TGs := fun xs σ H Q => ∃ ba O Hf s ds, Rep K ba O Hf H σ s ∧ RpL K Hf ds xs ∧
  Fits (p ds s) (fun _ s' => ∀ σ' H' Hf', Rep K ba O Hf' H' σ' s' → Same Hf Hf' → Only vs σ σ' → Q σ' H') fun _ _ => False
abbrev EG (X : Cx) (e : Expr) (t : Tg) : Prop := PG X e (tMG X.K t.slots t.put)
abbrev EGs (X : Cx) (es : List Expr) (ts : List Tg) : Prop := PGs X es fun xs σ H Q => xs.length = ts.length ∧ tMGs X.K (Tg.slotsL ts) (Tg.putL ts) xs σ H Q
section
variable {X : Cx} {pos : Pos}
theorem PG.conv {e : Expr} {t t' : TG} (h : PG X e t) (c : ∀ v σ H Q, t' v σ H Q → t v σ H Q) : PG X e t' := ⟨fun pins s σ H v u Q I r q => h.run pins s σ H v u Q I r (c v σ H Q q)⟩
theorem PGs.conv {e : List Expr} {t t' : TGs} (h : PGs X e t) (c : ∀ v σ H Q, t' v σ H Q → t v σ H Q) : PGs X e t' := ⟨fun pins s σ H v u Q I r q => h.run pins s σ H v u Q I r (c v σ H Q q)⟩
theorem eg_name {i : Nat} {x : Str} (hN : X.N.Nodup) (hi : X.N[i]? = some x) (hx : Loc X.env.scope x) (hf : X.fn x = true ∨ X.env.scope.names.lookup x = some .local := by first | exact .inl rfl | exact .inr rfl | assumption) : EG X (.Name x pos) (.nm i) :=
  PG.conv (pg_name hN hi hx hf) fun v σ H Q q => by
    obtain ⟨ba, O, Hf, s, d, R, p, F⟩ := q
    have F' : ∀ σ' H' Hf', Rep X.K ba O Hf' H' σ' { s with ρ := s.ρ.set i (.dat d) } → Same Hf Hf' → Only [i] σ σ' → Q σ' H' := by
      simp only [Tg.put, Tg.slots] at F
      exact F
    exact F' _ H Hf (R.store (sl := .dat d) ⟨v, rfl, p⟩ fun ds z => nomatch z) (Same.refl _) (Only.set σ)
theorem egs_nil : EGs X [] [] := PGs.conv pgs_nil fun vs σ H Q q => by
  obtain ⟨l, ba, O, Hf, s, ds, R, p, F⟩ := q
  refine ⟨List.length_eq_zero_iff.mp l, ?_⟩
  have F' : ∀ σ' H' Hf', Rep X.K ba O Hf' H' σ' s → Same Hf Hf' → Only (Tg.slotsL []) σ σ' → Q σ' H' := by
    simp only [Tg.putL] at F
    exact F
  exact F' σ H Hf R (Same.refl _) (Only.refl _ _)
theorem egs_cons {e : Expr} {es : List Expr} {t : Tg} {ts : List Tg} (h1 : EG X e t) (h2 : EGs X es ts)
    (hs : (assignEach (e :: es) X.env).map (·.2) = assign e X.env :: (assignEach es X.env).map (·.2) := by rfl) : EGs X (e :: es) (t :: ts) :=
  PGs.conv (pgs_cons h1 h2 hs) fun xs σ H Q q => by
    obtain ⟨l, ba, O, Hf, s, ds, R, p, F⟩ := q
    cases ds with
    | nil => simp only [Tg.putL] at F; exact F.elim
    | cons d ds =>
      obtain ⟨v, r, rfl, p1, p2⟩ := p.cons_inv
      simp only [Tg.putL] at F
      refine ⟨v, r, rfl, ba, O, Hf, s, d, R, p1, F.bind.imp (fun _ s1 F1 σ1 H1 Hf1 R1 e1 o1 => ?_) fun x s' q => q⟩
      refine ⟨by simpa using l, ba, O, Hf1, s1, ds, R1, RpL.mono e1 _ _ p2, F1.imp (fun _ s2 F2 σ2 H2 Hf2 R2 e2 o2 => ?_) fun x s' q => q⟩
      refine F2 σ2 H2 Hf2 R2 (Same.trans e1 e2) (Only.trans (o1.more fun i hi => ?_) (o2.more fun i hi => ?_))
      · simp only [Tg.slotsL]; exact List.mem_append_left _ hi
      · simp only [Tg.slotsL]; exact List.mem_append_right _ hi
theorem eg_tup {es : List Expr} {k : Nat} {ts : List Tg} (hc : X.calm = true) (h : EGs X es ts) (hn : (assignEach es X.env).length = ts.length := by rfl) (hst : (assignEach es X.env).findIdx? (·.1) = none := by rfl) : EG X (.Tuple es k pos) (.tup ts) :=
  PG.conv (pg_tup hc h hn hst) fun v σ H Q q => by
    obtain ⟨ba, O, Hf, s, d, R, p, F⟩ := q
    cases d with
    | tuple ds =>
      simp only [Tg.put] at F
      simp only [Rp] at p
      obtain ⟨a, vs, rfl, h1, h2⟩ := p
      by_cases hl : ds.length = ts.length
      · rw [if_pos hl] at F
        refine ⟨a, vs, rfl, Sub.sqT R.reg.sub h1, by rw [h2.length]; exact hl, by rw [h2.length]; exact hl, ba, O, Hf, s, ds, R, h2, ?_⟩
        simp only [Tg.slots] at F
        exact F
      · rw [if_neg hl] at F
        exact F.elim
    | _ => simp only [Tg.put] at F; exact F.elim
end
/-! ### for, while -/
def loopF (p : D → M Unit) (mb : M Fl) : List D → M Fl
  | [] => M.pure .nx
  | d :: ds => M.bind (p d) fun _ => M.bind mb fun f => match f with
    | .nx => loopF p mb ds
    | .ct => loopF p mb ds
    | .bk => M.pure .nx
    | .rt r => M.pure (.rt r)
/-- a target raises nothing -/
def calm {α : Type} (m : M α) : M α := fun s => match m s with
  | some (s', .ok a) => some (s', .ok a)
  | _ => none
theorem Fits.calm {α : Type} {m : M α} {s : S} {ok : α → S → Prop} {ex ex' : Exn → S → Prop} (h : Fits (Pu.calm m s) ok ex) : Fits (m s) ok ex' := by
  unfold Pu.calm at h
  cases e : m s with
  | none => rw [e] at h; exact h
  | some q =>
    obtain ⟨s', r⟩ := q
    rw [e] at h
    cases r with
    | ok a => exact h
    | error x => exact h.elim
mutual
theorem Tg.put_ok : ∀ (t : Tg) (d : D) (s s' : S) (x : Exn), t.put d s ≠ some (s', .error x)
  | .nm i, d, s, s', x => by simp [Tg.put, setDat]
  | .tup ts, d, s, s', x => by
    cases d with
    | tuple ds =>
      simp only [Tg.put]
      by_cases hl : ds.length = ts.length
      · rw [if_pos hl]; exact Tg.putL_ok ts ds s s' x
      · rw [if_neg hl]; simp [M.stuck]
    | _ => simp [Tg.put, M.stuck]
theorem Tg.putL_ok : ∀ (ts : List Tg) (ds : List D) (s s' : S) (x : Exn), Tg.putL ts ds s ≠ some (s', .error x)
  | [], ds, s, s', x => by simp [Tg.putL, M.pure]
  | t :: ts, [], s, s', x => by simp [Tg.putL, M.stuck]
  | t :: ts, d :: ds, s, s', x => by
    simp only [Tg.putL, M.bind]
    cases e : t.put d s with
    | none => simp
    | some q =>
      obtain ⟨s1, r⟩ := q
      cases r with
      | ok a => exact Tg.putL_ok ts ds s1 s' x
      | error y => exact absurd e (Tg.put_ok t d s s1 y)
end
theorem Fits.put {t : Tg} {d : D} {s : S} {ok : Unit → S → Prop} {ex ex' : Exn → S → Prop} (h : Fits (t.put d s) ok ex) : Fits (t.put d s) ok ex' := by
  cases e : t.put d s with
  | none => rw [e] at h; exact h
  | some q =>
    obtain ⟨s', r⟩ := q
    rw [e] at h
    cases r with
    | ok a => exact h
    | error x => exact absurd e (Tg.put_ok t d s s' x)
def mFor (mi : M (List D)) (t : Tg) (mb : M Fl) : M Fl := M.bind mi fun ds => loopF t.put mb ds
def loopW (mt : M Bool) (mb : M Fl) : Nat → M Fl
  | 0 => M.stuck
  | n + 1 => M.bind mt fun b => if b then M.bind mb fun f => match f with
    | .nx => loopW mt mb n
    | .ct => loopW mt mb n
    | .bk => M.pure .nx
    | .rt r => M.pure (.rt r)
    else M.pure .nx
section
variable {X : Cx} {E : WX} {pos : Pos}
theorem es_for {tg iter : Expr} {body : List Stmt} {mi : M (List D)} {t : Tg} {mb : M Fl} (hp : PassesOwn (model X.prog X.w) X.A X.env X.xe) (hc : X.calm = true) (hi : EI X E tg iter mi) (hg : EG X tg t) (hb : ESs X E body mb)
    (hs : ∀ x, foldedSetIterable iter X.env x = pure x := by intro _; rfl) : ES X E (.For tg iter body [] pos) (mFor mi t mb) :=
  PS.conv (ps_for hp hc hi hg hb hs) fun D σ H q => by
    obtain ⟨ba, O, Hf, s, R0, F⟩ := q
    refine ⟨ba, O, Hf, s, R0, tMS.bind F fun ds s1 F1 J H1 Hf1 R1 e1 it => ?_⟩
    refine ⟨fun i m σ H => ∃ Hf2 s2, Rep X.K ba O Hf2 H σ s2 ∧ Same Hf1 Hf2 ∧ m = ds.length - i ∧ i ≤ ds.length ∧
      Fits (loopF t.put mb (ds.drop i) s2) (fun fl s' => ∀ σ' H' Hf', Rep X.K ba O Hf' H' σ' s' → Same Hf2 Hf' → EndOk X.K ba O Hf' H' σ' s' D fl) (ExS X.K X.mg E ba O Hf2), ⟨ds.length, Hf1, s1, R1, Same.refl _, rfl, Nat.zero_le _, end_mono e1 F1⟩, ?_⟩
    rintro i m σ2 H2 ⟨Hf2, s2, R2, e2, rfl, hl, F2⟩
    have it2 := it.mono e2
    by_cases hi : i < ds.length
    · have ed : ds.drop i = ds[i] :: ds.drop (i + 1) := List.drop_eq_getElem_cons hi
      rw [ed] at F2
      unfold loopF at F2
      refine .inr ⟨it2.go i H2 R2.reg.sub hi, fun σ' H' => ∃ Hf3 s3, Rep X.K ba O Hf3 H' σ' s3 ∧ Same Hf2 Hf3 ∧
        Fits (loopF t.put mb (ds.drop (i + 1)) s3) (fun fl s' => ∀ σ' H' Hf', Rep X.K ba O Hf' H' σ' s' → Same Hf3 Hf' → EndOk X.K ba O Hf' H' σ' s' D fl) (ExS X.K X.mg E ba O Hf3), fun σ' H' n => ?_, fun x H' y => ?_⟩
      · obtain ⟨Hf3, s3, R3, e3, F3⟩ := n
        exact ⟨ds.length - (i + 1), by omega, Hf3, s3, R3, Same.trans e2 e3, rfl, hi, F3⟩
      · obtain ⟨Hf3, e3, R3, p3⟩ := R2.item (it2.yld i H2 x H' ds[i] R2.reg.sub (List.getElem?_eq_getElem hi) y)
        refine ⟨ba, O, Hf3, s2, ds[i], R3, p3, (Fits.put F2.bind).imp (fun _ s4 F4 σ4 H4 Hf4 R4 e4 _ => ?_) fun x s' q => q⟩
        have e24 : Same Hf2 Hf4 := Same.trans e3 e4
        refine ⟨ba, O, Hf4, s4, R4, F4.bind.imp (fun fl s5 F5 σ5 H5 Hf5 R5 e5 => ?_) fun x s' q => ExS.mono e24 q⟩
        have e25 : Same Hf2 Hf5 := Same.trans e24 e5
        cases fl with
        | nx => exact ⟨Hf5, s5, R5, e25, end_mono e25 F5⟩
        | ct => exact ⟨Hf5, s5, R5, e25, end_mono e25 F5⟩
        | bk => exact F5 σ5 H5 Hf5 R5 e25
        | rt r => exact F5 σ5 H5 Hf5 R5 e25
    · have ed : ds.drop i = [] := List.drop_eq_nil_of_le (by omega)
      rw [ed] at F2
      exact .inl ⟨it2.stop i H2 R2.reg.sub (by omega), F2 σ2 H2 Hf2 R2 (Same.refl _)⟩
theorem es_while {c : Expr} {body : List Stmt} {mt : M Bool} {mb : M Fl} (fuel : Nat) (hp : PassesOwn (model X.prog X.w) X.A X.env X.xe) (hc : ET X E c mt) (hb : ESs X E body mb) : ES X E (.While c body [] pos) (loopW mt mb fuel) :=
  PS.conv (ps_while hp hc hb) fun D σ H q => by
    obtain ⟨ba, O, Hf, s, R0, F⟩ := q
    refine ⟨fun m σ H => ∃ Hf2 s2, Rep X.K ba O Hf2 H σ s2 ∧ Same Hf Hf2 ∧
      Fits (loopW mt mb m s2) (fun fl s' => ∀ σ' H' Hf', Rep X.K ba O Hf' H' σ' s' → Same Hf2 Hf' → EndOk X.K ba O Hf' H' σ' s' D fl) (ExS X.K X.mg E ba O Hf2), ⟨fuel, Hf, s, R0, Same.refl _, F⟩, ?_⟩
    rintro m σ2 H2 ⟨Hf2, s2, R2, e2, F2⟩
    cases m with
    | zero => exact F2.elim
    | succ m =>
      unfold loopW at F2
      refine ⟨ba, O, Hf2, s2, R2, tMS.bind F2 fun b s3 F3 H3 Hf3 R3 e3 => ?_⟩
      cases b with
      | true =>
        refine iteT ⟨fun σ' H' => ∃ Hf4 s4, Rep X.K ba O Hf4 H' σ' s4 ∧ Same Hf Hf4 ∧
          Fits (loopW mt mb m s4) (fun fl s' => ∀ σ' H' Hf', Rep X.K ba O Hf' H' σ' s' → Same Hf4 Hf' → EndOk X.K ba O Hf' H' σ' s' D fl) (ExS X.K X.mg E ba O Hf4), fun σ' H' n => ⟨m, Nat.lt_succ_self _, n⟩, ?_⟩
        refine ⟨ba, O, Hf3, s3, R3, (Fits.bind F3).imp (fun fl s5 F5 σ5 H5 Hf5 R5 e5 => ?_) fun x s' q => ExS.mono e3 q⟩
        have e25 : Same Hf2 Hf5 := Same.trans e3 e5
        cases fl with
        | nx => exact ⟨Hf5, s5, R5, Same.trans e2 e25, end_mono e25 F5⟩
        | ct => exact ⟨Hf5, s5, R5, Same.trans e2 e25, end_mono e25 F5⟩
        | bk => exact F5 σ5 H5 Hf5 R5 e25
        | rt r => exact F5 σ5 H5 Hf5 R5 e25
      | false => exact iteF (F3 σ2 H3 Hf3 R3 e3)
/-! ### name op= value -/
def mAug (i : Nat) (f : D → D → Option Rs) (m : M Rv) : M Fl := fun s => match s.ρ[i]? with
  | some (.dat d1) => (M.bind m fun r2 => M.bind (peek r2) fun d2 => M.bind (M.lift (f d1 d2)) fun r => M.bind (mStore i r.rv) fun _ => M.pure .nx) s
  | _ => none
theorem es_aug {i : Nat} {x : Str} {e : Expr} {op : Operator} {r : R2} {f : D → D → Option Rs} {m : M Rv} {pos' : Pos} (hN : X.N.Nodup) (hi : X.N[i]? = some x) (hx : Loc X.env.scope x) (ho : OpR X (inplaceOp op) r) (hop : Op2 X.K r f) (he : EV X E e m)
    (hf : X.fn x = true ∨ X.env.scope.names.lookup x = some .local := by first | exact .inl rfl | exact .inr rfl | assumption) : ES X E (.AugAssign (.Name x pos') op e pos) (mAug i f m) :=
  PS.conv (ps_aug hN hi hx he ho hf) fun D σ H q => by
    obtain ⟨ba, O, Hf, s, R0, F⟩ := q
    unfold mAug at F
    cases es : s.ρ[i]? with
    | none => rw [es] at F; exact F.elim
    | some sl =>
      cases sl with
      | dat d1 =>
        rw [es] at F
        obtain ⟨xv, e1, v1, rfl, p1⟩ := R0.at es
        refine ⟨v1, e1, ba, O, Hf, s, R0, tMS.bind F fun r2 s2 F2 v2 H2 Hf2 R2 e2 ok2 => ?_⟩
        obtain ⟨d2, F3, b2⟩ := peek_now R2 ok2 F2.bind
        obtain ⟨res, er, F4⟩ := F3.bind.lift
        refine hop Hf2 H2 d1 d2 v1 v2 res _ R2.reg.sub (.inl (Rp.mono e2 _ _ p1)) b2 er fun v H' g => ?_
        obtain ⟨Hf3, e3, R3, ok3⟩ := R2.got g
        obtain ⟨s4, Hf4, F5, e4, R4⟩ := mStore_ok R3 ok3 F4.bind
        exact F5 _ H' Hf4 R4 (Same.trans e2 (Same.trans e3 e4))
      | no => rw [es] at F; exact F.elim
      | own _ => rw [es] at F; exact F.elim
      | bag => rw [es] at F; exact F.elim
      | ob _ => rw [es] at F; exact F.elim
/-! ### a name's own list -/
theorem Rep.write {K : PySem.W.Frag} {ba : Option Addr} {O Hf H : Hp} {σ : St} {s : S} {i : Nat} {ds ds' : List D} {a : Addr} {vs' : List V} (R : Rep K ba O Hf H σ s) (h : s.ρ[i]? = some (.own ds)) (hv : σ[i]? = some (some (.ref a))) (hr : RpL K Hf ds' vs') :
    Rep K ba O Hf (upd H a (.lst vs')) σ { s with ρ := s.ρ.set i (.own ds') } := by
  obtain ⟨b, e, vs, h1, h2, h3, h4, h5⟩ := R.slot i _ _ h hv
  cases e
  have hi : i < s.ρ.length := (List.getElem?_eq_some_iff.mp h).1
  refine ⟨⟨fun c o e => ?_, fun c o e => ?_, R.reg.dis, fun c e => ?_, R.reg.tbs.put h1 lst_noT lst_noC, R.reg.obs.put h2⟩, by rw [List.length_set]; exact R.len, fun j sl x e1 e2 => ?_, fun j k es fs x ne e1 e2 e3 => ?_⟩
  · have : c ≠ a := fun z => by rw [z, h2] at e; cases e
    rw [upd_ne this]; exact R.reg.sub c o e
  · have : c ≠ a := fun z => by rw [z, h3] at e; cases e
    rw [upd_ne this]; exact R.reg.out c o e
  · obtain ⟨⟨c', k1, k2⟩, k3, k4⟩ := R.reg.bag c e
    have : c ≠ a := fun z => h4 (z ▸ e)
    exact ⟨⟨c', by rw [upd_ne this]; exact k1, k2⟩, k3, k4⟩
  · by_cases ji : i = j
    · subst ji
      rw [List.getElem?_set_self hi] at e1
      cases e1
      rw [hv] at e2
      cases e2
      exact ⟨a, rfl, vs', upd_same, h2, h3, h4, hr⟩
    · rw [List.getElem?_set_ne ji] at e1
      have q := R.slot j sl x e1 e2
      cases sl with
      | no => trivial
      | dat d => exact q
      | own es =>
        obtain ⟨b, q1, ws, k1, k2⟩ := q
        subst q1
        have : b ≠ a := fun z => by
          subst z
          exact R.uni i j _ _ _ ji h e1 hv e2
        exact ⟨b, rfl, ws, by rw [upd_ne this]; exact k1, k2⟩
      | bag => exact q
      | ob n => exact q
  · by_cases ji : i = j
    · subst ji
      rw [List.getElem?_set_self hi] at e1
      cases e1
      rw [List.getElem?_set_ne ne] at e2
      exact R.uni i k _ _ _ ne h e2 e3
    · rw [List.getElem?_set_ne ji] at e1
      by_cases ki : i = k
      · subst ki
        exact R.uni j i _ _ _ ne e1 h e3
      · rw [List.getElem?_set_ne ki] at e2
        exact R.uni j k es fs x ne e1 e2 e3
def isOwn (i : Nat) : M Unit := fun s => match s.ρ[i]? with
  | some (.own _) => some (s, .ok ())
  | _ => none
def setOwn (i : Nat) (f : List D → Option (List D × D)) : M Rv := fun s => match s.ρ[i]? with
  | some (.own ds) => match f ds with
    | some (ds', r) => some ({ s with ρ := s.ρ.set i (.own ds') }, .ok (.dat r))
    | none => none
  | _ => none
theorem isOwn_ok {K : PySem.W.Frag} {ba : Option Addr} {O Hf H : Hp} {σ : St} {s : S} {i : Nat} {ok : Unit → S → Prop} {ex : Exn → S → Prop} (R : Rep K ba O Hf H σ s) (F : Fits (isOwn i s) ok ex) : ok () s ∧ ∃ ds a, s.ρ[i]? = some (.own ds) ∧ σ[i]? = some (some (.ref a)) ∧ OwnAt K ba O Hf H ds a := by
  unfold isOwn at F
  cases e : s.ρ[i]? with
  | none => rw [e] at F; exact F.elim
  | some sl =>
    rw [e] at F
    cases sl with
    | own ds =>
      obtain ⟨x, e1, a, rfl, p⟩ := R.at e
      exact ⟨F, ds, a, rfl, e1, p⟩
    | no => exact F.elim
    | dat _ => exact F.elim
    | bag => exact F.elim
    | ob _ => exact F.elim
/-- x.append(e) -/
def mAppend (i : Nat) (m : M Rv) : M Rv := M.bind (isOwn i) fun _ => M.bind m fun r => M.bind (retain r) fun d => setOwn i fun ds => if ds.length < sizeLine then some (ds ++ [d], .none) else none
/-- x.extend(e), e a list that nobody else holds -/
def mExtend (i : Nat) (m : M Rv) : M Rv := M.bind (isOwn i) fun _ => M.bind m fun r => match r with
  | .fresh es => setOwn i fun ds => if ds.length + es.length ≤ sizeLine then some (ds ++ es, .none) else none
  | _ => M.stuck
/-- x.pop() -/
def mPop (i : Nat) : M Rv := M.bind (isOwn i) fun _ => setOwn i fun ds => ds.getLast?.map fun d => (ds.dropLast, d)
theorem setOwn_inv {i : Nat} {f : List D → Option (List D × D)} {s : S} {ok : Rv → S → Prop} {ex : Exn → S → Prop} (F : Fits (setOwn i f s) ok ex) : ∃ ds ds' r, s.ρ[i]? = some (.own ds) ∧ f ds = some (ds', r) ∧ ok (.dat r) { s with ρ := s.ρ.set i (.own ds') } := by
  unfold setOwn at F
  cases e : s.ρ[i]? with
  | none => rw [e] at F; exact F.elim
  | some sl =>
    rw [e] at F
    cases sl with
    | own ds =>
      cases e2 : f ds with
      | none => simp only [e2] at F; exact F.elim
      | some q =>
        obtain ⟨ds', r⟩ := q
        simp only [e2] at F
        exact ⟨ds, ds', r, rfl, e2, F⟩
    | no => exact F.elim
    | dat _ => exact F.elim
    | bag => exact F.elim
    | ob _ => exact F.elim
theorem ty_own {K : PySem.W.Frag} {H : Hp} {a : Addr} {vs : List V} (h : H a = some (.lst vs)) : tyV K "list" (.ref a) H := .inl ⟨rfl, _, .inl (.inl h)⟩
section
variable {i : Nat} {m : M Rv}
theorem ev_append {c : Expr} (h : PE X c (tBM X.K "list" rAppend (tVar i) (tCons (tM X.K X.mg E m) tNil))) : EV X E c (mAppend i m) :=
  PE.conv h fun σ H Q q => by
    obtain ⟨ba, O, Hf, s, R0, F⟩ := q
    obtain ⟨F1, ds0, a, h1, h2, vs0, h3, _⟩ := isOwn_ok R0 F.bind
    refine ⟨_, h2, ty_own h3, ba, O, Hf, s, R0, F1.bind.imp (fun r s2 F2 v H2 Hf2 R2 e2 ok2 => ?_) fun x s' q => q⟩
    obtain ⟨d, s3, Hf3, F3, e3, R3, p3⟩ := retain_ok R2 ok2 F2.bind
    obtain ⟨ds, ds', r, k1, k2, F4⟩ := setOwn_inv F3
    obtain ⟨b, eb, vs, k3, k4, k5, k6, k7⟩ := R3.slot i _ _ k1 h2
    cases eb
    by_cases hl : ds.length < sizeLine
    · simp only [if_pos hl, Option.some.injEq, Prod.mk.injEq] at k2
      obtain ⟨rfl, rfl⟩ := k2
      refine ⟨a, vs, v, rfl, rfl, k3, by rw [k7.length]; exact hl, ?_⟩
      exact F4 .non _ Hf3 (R3.write k1 h2 (k7.append (RpL.cons p3 RpL.nil))) (Same.trans e2 e3) (show Rp X.K Hf3 .none .non by simp only [Rp])
    · simp only [if_neg hl] at k2
      cases k2
theorem ev_extend {c : Expr} (h : PE X c (tBM X.K "list" rExtend (tVar i) (tCons (tM X.K X.mg E m) tNil))) : EV X E c (mExtend i m) :=
  PE.conv h fun σ H Q q => by
    obtain ⟨ba, O, Hf, s, R0, F⟩ := q
    obtain ⟨F1, ds0, a, h1, h2, vs0, h3, _⟩ := isOwn_ok R0 F.bind
    refine ⟨_, h2, ty_own h3, ba, O, Hf, s, R0, F1.bind.imp (fun r s2 F2 v H2 Hf2 R2 e2 ok2 => ?_) fun x s' q => q⟩
    cases r with
    | fresh es =>
      obtain ⟨c, rfl, ⟨ws, w1, _, _, _, w2⟩, _⟩ := ok2
      obtain ⟨ds, ds', r, k1, k2, F4⟩ := setOwn_inv F2
      obtain ⟨b, eb, vs, k3, k4, k5, k6, k7⟩ := R2.slot i _ _ k1 h2
      cases eb
      by_cases hl : ds.length + es.length ≤ sizeLine
      · simp only [if_pos hl, Option.some.injEq, Prod.mk.injEq] at k2
        obtain ⟨rfl, rfl⟩ := k2
        refine ⟨a, c, vs, ws, rfl, rfl, k3, w1, by rw [k7.length, w2.length]; exact hl, ?_⟩
        exact F4 .non _ Hf2 (R2.write k1 h2 (k7.append w2)) e2 (show Rp X.K Hf2 .none .non by simp only [Rp])
      · simp only [if_neg hl] at k2
        cases k2
    | _ => exact F2.elim
theorem RpL.last {K : PySem.W.Frag} {H : Hp} {ds : List D} {vs : List V} {d : D} (h : RpL K H ds vs) (e : ds.getLast? = some d) : ∃ v, vs[vs.length - 1]? = some v ∧ Rp K H d v := by
  rw [List.getLast?_eq_getElem?] at e
  obtain ⟨v, e1, r⟩ := h.get e
  exact ⟨v, by rw [h.length]; exact e1, r⟩
theorem RpL.dropLast {K : PySem.W.Frag} {H : Hp} {ds : List D} {vs : List V} (h : RpL K H ds vs) : RpL K H ds.dropLast vs.dropLast := by
  rw [List.dropLast_eq_take, List.dropLast_eq_take, h.length]
  exact h.take _
theorem ev_pop {c : Expr} (h : PE X c (tBM0 X.K "list" rPop (tVar i))) : EV X E c (mPop i) :=
  PE.conv h fun σ H Q q => by
    obtain ⟨ba, O, Hf, s, R0, F⟩ := q
    obtain ⟨F1, ds0, a, h1, h2, vs0, h3, _⟩ := isOwn_ok R0 F.bind
    obtain ⟨ds, ds', r, k1, k2, F4⟩ := setOwn_inv F1
    obtain ⟨b, eb, vs, k3, k4, k5, k6, k7⟩ := R0.slot i _ _ k1 h2
    cases eb
    obtain ⟨d, ed, e2⟩ := Option.map_eq_some_iff.mp k2
    cases e2
    obtain ⟨v, ev, rv⟩ := k7.last ed
    refine ⟨_, h2, ty_own k3, a, vs, v, rfl, rfl, k3, ev, ?_⟩
    exact F4 v _ Hf (R0.write k1 h2 k7.dropLast) (Same.refl _) rv
end
end
end Pu
/-! Pu9: list comprehensions. -/
namespace Pu
open PySem PySem.Spec PyProof.Rows L2
/-- the slots of a block's own names forgotten -/
def wipeS (ρ : List Sl) : List Nat → List Sl
  | [] => ρ
  | v :: vs => (wipeS ρ vs).set v .no
theorem wipeS_length (ρ : List Sl) : ∀ vs, (wipeS ρ vs).length = ρ.length
  | [] => rfl
  | v :: vs => by unfold wipeS; rw [List.length_set, wipeS_length ρ vs]
theorem wipeS_not {ρ : List Sl} {i : Nat} : ∀ {vs : List Nat}, i ∉ vs → (wipeS ρ vs)[i]? = ρ[i]?
  | [], _ => rfl
  | v :: vs, h => by
    unfold wipeS
    have h1 : v ≠ i := fun z => h (by rw [z]; exact List.mem_cons_self)
    rw [List.getElem?_set_ne h1]
    exact wipeS_not fun z => h (List.mem_cons_of_mem _ z)
theorem wipeS_in {ρ : List Sl} {i : Nat} : ∀ {vs : List Nat}, i ∈ vs → i < ρ.length → (wipeS ρ vs)[i]? = some .no
  | v :: vs, h, hl => by
    unfold wipeS
    by_cases e : v = i
    · subst e
      rw [List.getElem?_set_self (by rw [wipeS_length]; exact hl)]
    · rw [List.getElem?_set_ne e]
      (rcases List.mem_cons.mp h with z | z)
      · exact absurd z.symm e
      · exact wipeS_in z hl
/-- the slots of a block's own names as they were ahead of it -/
def backS (ρ₀ ρ : List Sl) : List Nat → List Sl
  | [] => ρ
  | v :: vs => (backS ρ₀ ρ vs).set v (ρ₀.getD v .no)
theorem backS_length (ρ₀ ρ : List Sl) : ∀ vs, (backS ρ₀ ρ vs).length = ρ.length
  | [] => rfl
  | v :: vs => by unfold backS; rw [List.length_set, backS_length ρ₀ ρ vs]
theorem backS_not {ρ₀ ρ : List Sl} {i : Nat} : ∀ {vs : List Nat}, i ∉ vs → (backS ρ₀ ρ vs)[i]? = ρ[i]?
  | [], _ => rfl
  | v :: vs, h => by
    unfold backS
    have h1 : v ≠ i := fun z => h (by rw [z]; exact List.mem_cons_self)
    rw [List.getElem?_set_ne h1]
    exact backS_not fun z => h (List.mem_cons_of_mem _ z)
theorem backS_in {ρ₀ ρ : List Sl} {i : Nat} : ∀ {vs : List Nat}, i ∈ vs → i < ρ.length → (backS ρ₀ ρ vs)[i]? = some (ρ₀.getD i .no)
  | v :: vs, h, hl => by
    unfold backS
    by_cases e : v = i
    · subst e
      rw [List.getElem?_set_self (by rw [backS_length]; exact hl)]
    · rw [List.getElem?_set_ne e]
      (rcases List.mem_cons.mp h with z | z)
      · exact absurd z.symm e
      · exact backS_in z hl
/-- no own list among them -/
def freeS (ρ : List Sl) (vs : List Nat) : Bool := vs.all fun v => match ρ.getD v .no with
  | .own _ => false
  | _ => true
section
variable {K : PySem.W.Frag} {ba : Option Addr} {O O' Hf H : Hp} {σ : St} {s s' : S} {vs : List Nat}
theorem Rep.wipe (R : Rep K ba O Hf H σ s) : Rep K ba O Hf H (L2.wipe σ vs) { s with ρ := wipeS s.ρ vs } := by
  have hl : ∀ {i : Nat} {sl : Sl} {x : Option V}, (wipeS s.ρ vs)[i]? = some sl → (L2.wipe σ vs)[i]? = some x → (i ∈ vs ∧ sl = .no) ∨ (i ∉ vs ∧ s.ρ[i]? = some sl ∧ σ[i]? = some x) := fun {i sl x} e1 e2 => by
    by_cases hi : i ∈ vs
    · have : i < s.ρ.length := by
        have := (List.getElem?_eq_some_iff.mp e1).1
        rwa [wipeS_length] at this
      rw [wipeS_in hi this] at e1
      exact .inl ⟨hi, (Option.some.inj e1).symm⟩
    · rw [wipeS_not hi] at e1
      rw [wipe_not hi] at e2
      exact .inr ⟨hi, e1, e2⟩
  refine ⟨R.reg, by rw [wipeS_length, wipe_length]; exact R.len, fun i sl x e1 e2 => ?_, fun i j ds es x ne e1 e2 e3 => ?_⟩
  · rcases hl e1 e2 with ⟨_, rfl⟩ | ⟨_, k1, k2⟩
    · trivial
    · exact R.slot i sl x k1 k2
  · rcases hl e1 e3 with ⟨_, z⟩ | ⟨hi, k1, k2⟩
    · cases z
    · have hj : j ∉ vs := fun z => by
        have : j < s.ρ.length := by
          have := (List.getElem?_eq_some_iff.mp e2).1
          rwa [wipeS_length] at this
        rw [wipeS_in z this] at e2
        cases e2
      rw [wipeS_not hj] at e2
      rw [wipe_not hj]
      exact R.uni i j ds es x ne k1 e2 k2
/-- behind a block -/
theorem Rep.unwipe {Hf₀ H₀ : Hp} (R₀ : Rep K ba O Hf₀ H₀ σ s) (f : freeS s.ρ vs = true) (R : Rep K ba O Hf H (L2.wipe σ vs) s') (e : Same Hf₀ Hf) : Rep K ba O Hf H σ { s' with ρ := backS s.ρ s'.ρ vs } := by
  have ln : s'.ρ.length = σ.length := by rw [R.len, wipe_length]
  have hl : ∀ {i : Nat} {sl : Sl}, (backS s.ρ s'.ρ vs)[i]? = some sl → (i ∈ vs ∧ s.ρ[i]? = some sl ∧ ∀ ds, sl ≠ .own ds) ∨ (i ∉ vs ∧ s'.ρ[i]? = some sl) := fun {i sl} e1 => by
    by_cases hi : i ∈ vs
    · have hl1 : i < s'.ρ.length := by
        have := (List.getElem?_eq_some_iff.mp e1).1
        rwa [backS_length] at this
      have hl0 : i < s.ρ.length := by rw [R₀.len, ← ln]; exact hl1
      rw [backS_in hi hl1] at e1
      have e2 : s.ρ[i]? = some sl := by
        rw [List.getD_eq_getElem?_getD, List.getElem?_eq_getElem hl0] at e1
        rw [List.getElem?_eq_getElem hl0]
        exact e1
      refine .inl ⟨hi, e2, fun ds z => ?_⟩
      subst z
      unfold freeS at f
      rw [List.all_eq_true] at f
      have q := f i hi
      rw [Option.some.inj e1] at q
      cases q
    · rw [backS_not hi] at e1
      exact .inr ⟨hi, e1⟩
  refine ⟨R.reg, by rw [backS_length]; exact ln, fun i sl x e1 e2 => ?_, fun i j ds es x ne e1 e2 e3 => ?_⟩
  · rcases hl e1 with ⟨_, k1, k2⟩ | ⟨hi, k1⟩
    · have q := R₀.slot i sl x k1 e2
      cases sl with
      | no => trivial
      | dat d => obtain ⟨w, q1, q2⟩ := q; exact ⟨w, q1, Rp.mono e _ _ q2⟩
      | own es => exact absurd rfl (k2 es)
      | bag => exact q
      | ob n => obtain ⟨b, q1, q2⟩ := q; exact ⟨b, q1, e _ _ q2⟩
    · exact R.slot i sl x k1 (by rw [wipe_not hi]; exact e2)
  · rcases hl e1 with ⟨_, _, k2⟩ | ⟨hi, k1⟩
    · exact absurd rfl (k2 ds)
    · rcases hl e2 with ⟨_, _, k2⟩ | ⟨hj, k3⟩
      · exact absurd rfl (k2 es)
      · have q := R.uni i j ds es x ne k1 k3 (by rw [wipe_not hi]; exact e3)
        rwa [wipe_not hj] at q
/-- callers hold one more -/
theorem Rep.outer {a : Addr} {o : HO} (R : Rep K ba O Hf H σ s) (h : H a = some o) (hf : Hf a = none) (hb : ba ≠ some a) (hn : ∀ (i : Nat) ds, s.ρ[i]? = some (.own ds) → σ[i]? ≠ some (some (.ref a))) (ht : NoT o := by intro ps z; cases z) : Rep K ba (upd O a o) Hf H σ s := by
  refine ⟨⟨R.reg.sub, Same.updF R.reg.out h, fun b q => ?_, fun b e => ?_, R.reg.tbs.outer h ht ht, R.reg.obs⟩, R.len, fun i sl x e1 e2 => ?_, R.uni⟩
  · have : b ≠ a := fun z => q (z ▸ hf)
    rw [upd_ne this]; exact R.reg.dis b q
  · obtain ⟨k1, k2, k3⟩ := R.reg.bag b e
    have : b ≠ a := fun z => hb (z ▸ e)
    exact ⟨k1, k2, by rw [upd_ne this]; exact k3⟩
  · have q := R.slot i sl x e1 e2
    cases sl with
    | no => trivial
    | dat d => exact q
    | own es =>
      obtain ⟨b, rfl, ws, k1, k2, k3, k4⟩ := q
      have : b ≠ a := fun z => by subst z; exact hn i es e1 e2
      exact ⟨b, rfl, ws, k1, k2, by rw [upd_ne this]; exact k3, k4⟩
    | bag => exact q
    | ob n => exact q
theorem Rep.less (R : Rep K ba O' Hf H σ s) (e : Same O O') : Rep K ba O Hf H σ s := by
  have nn : ∀ {a : Addr}, O' a = none → O a = none := fun {a} h => by
    cases q : O a with
    | none => rfl
    | some x => rw [e _ _ q] at h; cases h
  refine ⟨⟨R.reg.sub, Same.trans e R.reg.out, fun b q => nn (R.reg.dis b q), fun b z => ?_, R.reg.tbs.less (fun a o => e a o), R.reg.obs⟩, R.len, fun i sl x e1 e2 => ?_, R.uni⟩
  · obtain ⟨k1, k2, k3⟩ := R.reg.bag b z
    exact ⟨k1, k2, nn k3⟩
  · have q := R.slot i sl x e1 e2
    cases sl with
    | no => trivial
    | dat d => exact q
    | own es => obtain ⟨b, q1, ws, k1, k2, k3, k4⟩ := q; exact ⟨b, q1, ws, k1, k2, nn k3, k4⟩
    | bag => exact q
    | ob n => exact q
/-- an object that is held by the callers of this state is written -/
theorem Rep.change {a : Addr} {o o' : HO} (R : Rep K ba (upd O a o) Hf H σ s) (hn : NoT o := by intro ps z; cases z) (hc : NoC a o := by intro q z; unfold LamX.CodeO at z; cases z) (hn2 : NoT o' := by intro ps z; cases z) : Rep K ba (upd O a o') Hf (upd H a o') σ s := by
  have hf : Hf a = none := by
    cases q : Hf a with
    | none => rfl
    | some x =>
      have z := R.reg.dis a (by rw [q]; simp)
      rw [upd_same] at z; cases z
  have hHa := R.reg.out a o upd_same
  have tb : Tbs K ba (upd O a o') Hf (upd H a o') := by
    have T1 := R.reg.tbs.put (u := o') hHa hn hc
    have T2 := T1.outer (o' := o') upd_same hn2 hn2
    have e : upd (upd O a o) a o' = upd O a o' := funext fun b => by
      by_cases z : b = a
      · rw [z, upd_same, upd_same]
      · rw [upd_ne z, upd_ne z, upd_ne z]
    rwa [e] at T2
  refine ⟨⟨fun b x e => ?_, fun b x e => ?_, fun b q => ?_, fun b e => ?_, tb, R.reg.obs.put hf⟩, R.len, fun i sl x e1 e2 => ?_, R.uni⟩
  · have : b ≠ a := fun z => by rw [z, hf] at e; cases e
    rw [upd_ne this]; exact R.reg.sub b x e
  · by_cases z : b = a
    · subst z
      rw [upd_same] at e ⊢
      exact e
    · rw [upd_ne z] at e ⊢
      exact R.reg.out b x (by rw [upd_ne z]; exact e)
  · have : b ≠ a := fun z => q (z ▸ hf)
    have q2 := R.reg.dis b q
    rw [upd_ne this] at q2 ⊢
    exact q2
  · obtain ⟨⟨c, k1, k2⟩, k3, k4⟩ := R.reg.bag b e
    have : b ≠ a := fun z => by rw [z, upd_same] at k4; cases k4
    rw [upd_ne this] at k4
    exact ⟨⟨c, by rw [upd_ne this]; exact k1, k2⟩, k3, by rw [upd_ne this]; exact k4⟩
  · have q := R.slot i sl x e1 e2
    cases sl with
    | no => trivial
    | dat d => exact q
    | own es =>
      obtain ⟨b, rfl, ws, k1, k2, k3, k4⟩ := q
      have : b ≠ a := fun z => by rw [z, upd_same] at k3; cases k3
      rw [upd_ne this] at k3
      exact ⟨b, rfl, ws, by rw [upd_ne this]; exact k1, k2, by rw [upd_ne this]; exact k3, k4⟩
    | bag => exact q
    | ob n => exact q
end
/-! ### one clause -/
def W0 : WX := fun _ _ _ _ => False
/-- a block's turns: acc is what has been made -/
def loopC (vs : List Nat) (p : D → M Unit) (mt : M Bool) (me : M Rv) : List D → List D → M (List D)
  | [], acc => M.pure acc
  | d :: ds, acc => M.bind (p d) fun _ => M.bind (calm mt) fun b => if b then M.bind (calm me) fun r => M.bind (retain r) fun y => fun s =>
      if acc.length < sizeLine then loopC vs p mt me ds (acc ++ [y]) { s with ρ := wipeS s.ρ vs } else none
    else fun s => loopC vs p mt me ds acc { s with ρ := wipeS s.ρ vs }
def mComp (vs : List Nat) (mi : M (List D)) (t : Tg) (mt : M Bool) (me : M Rv) : M Rv := M.bind mi fun ds => fun s => if freeS s.ρ vs then
    (M.bind (loopC vs t.put mt me ds []) fun acc => fun s' => some ({ s' with ρ := backS s.ρ s'.ρ vs }, .ok (.fresh acc))) { s with ρ := wipeS s.ρ vs }
  else none
/-- no tests -/
def mYes : M Bool := M.pure true
theorem wipe_twice (σ : St) (vs : List Nat) : L2.wipe (L2.wipe σ vs) vs = L2.wipe σ vs := (Only.of_wipe (vs := vs) σ).wipe fun _ h => h
theorem Fits.no {α : Type} {o : Option (S × Except Exn α)} {ok : α → S → Prop} {ex ex' : Exn → S → Prop} (h : Fits o ok ex) (n : ∀ s x, o ≠ some (s, .error x)) : Fits o ok ex' := by
  cases o with
  | none => exact h
  | some q =>
    obtain ⟨s', r⟩ := q
    cases r with
    | ok a => exact h
    | error x => exact absurd rfl (n s' x)
section
variable {X : Cx} {E : WX}
theorem lc_conv {K : PySem.W.Frag} {mg : Str → Option Value} {vs : List Nat} {mi : M (List D)} {t : Tg} {mt : M Bool} {me : M Rv} {tt : TT} {σ : St} {H : Hp} {Q : VK} (hv : ∀ i ∈ t.slots, i ∈ vs) (hsub : ∀ σ H Q', tMT K mg W0 mt σ H Q' → tt σ H Q')
    (q : tM K mg E (mComp vs mi t mt me) σ H Q) : tLc (iM K mg E mi) (tMG K t.slots t.put) tt (tM K mg W0 me) vs σ H Q := by
  obtain ⟨ba, O, Hf, s, R0, F⟩ := q
  refine ⟨ba, O, Hf, s, R0, F.bind.imp (fun ds s1 F1 J H1 Hf1 R1 e1 it => ?_) fun x s' q => q⟩
  intro D hD
  by_cases hfr : freeS s1.ρ vs = true
  · simp only [hfr, if_true] at F1
    obtain ⟨f1, f2, f3⟩ := R1.reg.free hD
    -- behind the turns
    let Post : List PyData → S → Prop := fun acc s' => ∀ v H' Hf', Rep K ba O Hf' H' σ { s' with ρ := backS s1.ρ s'.ρ vs } → Same Hf1 Hf' → RvOk K ba O Hf' H' σ { s' with ρ := backS s1.ρ s'.ρ vs } (.fresh acc) v → Q v H'
    have F2 : Fits (loopC vs t.put mt me ds [] { s1 with ρ := wipeS s1.ρ vs }) Post fun _ _ => True :=
      F1.bind.imp (fun acc s' h v H' Hf' R' e' ok' => h v H' Hf' R' (Same.trans e1 e') ok') fun _ _ _ => trivial
    refine ⟨fun i m H => ∃ Hf2 s2 acc vsA, Rep K ba (upd O D (.lst vsA)) Hf2 H (L2.wipe σ vs) s2 ∧ RpL K Hf2 acc vsA ∧ Same Hf1 Hf2 ∧ m = ds.length - i ∧ i ≤ ds.length ∧ Fits (loopC vs t.put mt me (ds.drop i) acc s2) Post fun _ _ => True,
      ⟨ds.length, Hf1, _, [], [], ?_, RpL.nil, Same.refl _, rfl, Nat.zero_le _, F2⟩, ?_⟩
    · refine ((R1.grow (o := .lst []) hD).wipe (vs := vs)).outer upd_same f1 f3 fun i es e2 e3 => ?_
      have R1g := (R1.grow (o := .lst []) hD).wipe (vs := vs)
      obtain ⟨x, e4, b, rfl, ws, k1, k2, k3, k4⟩ := R1g.at e2
      rw [e4] at e3
      cases e3
      obtain ⟨x', e5, b', rfl, ws', j1, _⟩ := (R1.wipe (vs := vs)).at e2
      rw [e4] at e5
      cases e5
      rw [hD] at j1
      cases j1
    · rintro i m H2 ⟨Hf2, s2, acc, vsA, R2, pA, e2, rfl, hl, F3⟩
      have it2 := it.mono e2
      by_cases hi : i < ds.length
      · rw [List.drop_eq_getElem_cons hi] at F3
        unfold loopC at F3
        refine .inr ⟨it2.go i H2 R2.reg.sub hi, fun H' => ∃ Hf3 s3 acc' vsA', Rep K ba (upd O D (.lst vsA')) Hf3 H' (L2.wipe σ vs) s3 ∧ RpL K Hf3 acc' vsA' ∧ Same Hf1 Hf3 ∧ Fits (loopC vs t.put mt me (ds.drop (i + 1)) acc' s3) Post fun _ _ => True, fun H' n => ?_, fun x H' y => ?_⟩
        · obtain ⟨Hf3, s3, acc', vsA', R3, p3, e3, F4⟩ := n
          exact ⟨ds.length - (i + 1), by omega, Hf3, s3, acc', vsA', R3, p3, e3, rfl, hi, F4⟩
        · obtain ⟨Hf3, e3, R3, p3⟩ := R2.item (it2.yld i H2 x H' ds[i] R2.reg.sub (List.getElem?_eq_getElem hi) y)
          refine ⟨ba, upd O D (.lst vsA), Hf3, s2, ds[i], R3, p3, (Fits.put F3.bind).imp (fun _ s4 F4 σ4 H4 Hf4 R4 e4 on => ?_) fun x s' q => q⟩
          have w4 : L2.wipe σ4 vs = L2.wipe σ vs := by rw [on.wipe hv, wipe_twice]
          refine ⟨w4, hsub _ _ _ ⟨ba, upd O D (.lst vsA), Hf4, s4, R4, F4.bind.calm.imp (fun b s5 F5 H5 Hf5 R5 e5 => ?_) fun x s' q => q⟩⟩
          have e25 : Same Hf2 Hf5 := Same.trans e3 (Same.trans e4 e5)
          cases b with
          | true =>
            refine iteT ⟨ba, upd O D (.lst vsA), Hf5, s5, R5, (Fits.bind F5).calm.imp (fun r s6 F6 v H6 Hf6 R6 e6 ok6 => ?_) fun x s' q => q⟩
            obtain ⟨y', s7, Hf7, F7, e7, R7, p7⟩ := retain_ok R6 ok6 F6.bind
            have hD7 : H6 D = some (.lst vsA) := R7.reg.out D _ upd_same
            by_cases hz : acc.length < sizeLine
            · simp only [if_pos hz] at F7
              refine ⟨vsA, hD7, by rw [pA.length]; exact hz, Hf7, _, acc ++ [y'], vsA ++ [v], ?_, ?_, Same.trans e2 (Same.trans e25 (Same.trans e6 e7)), F7⟩
              · have := (R7.wipe (vs := vs)).change (o' := .lst (vsA ++ [v]))
                rw [w4] at this
                exact this
              · exact (RpL.mono (Same.trans e25 (Same.trans e6 e7)) _ _ pA).append (RpL.cons p7 RpL.nil)
            · simp only [if_neg hz] at F7
              exact F7.elim
          | false =>
            refine iteF ⟨Hf5, _, acc, vsA, ?_, RpL.mono e25 _ _ pA, Same.trans e2 e25, F5⟩
            have := R5.wipe (vs := vs)
            rw [w4] at this
            exact this
      · rw [List.drop_eq_nil_of_le (by omega)] at F3
        unfold loopC at F3
        have F4 : Post acc s2 := F3
        have hn : O D = none := f2
        have RO := R2.less (O := O) (fun b o z => by
          have : b ≠ D := fun z' => by rw [z', hn] at z; cases z
          rw [upd_ne this]; exact z)
        have RB := R1.unwipe hfr RO e2
        have hH : H2 D = some (.lst vsA) := R2.reg.out D _ upd_same
        have hf2 : Hf2 D = none := by
          cases q : Hf2 D with
          | none => rfl
          | some x =>
            have z := R2.reg.dis D (by rw [q]; simp)
            rw [upd_same] at z; cases z
        refine .inl ⟨it2.stop i H2 R2.reg.sub (by omega), F4 _ H2 Hf2 RB e2 ⟨D, rfl, ⟨vsA, hH, hf2, hn, f3, pA⟩, fun j es e3 e4 => ?_⟩⟩
        obtain ⟨x, e5, b, rfl, ws, k1, k2, k3, k4, k5⟩ := RB.at e3
        rw [e4] at e5
        cases e5
        -- an own list of the frame is not the new one
        have hj : j ∉ vs := fun z => by
          have hl0 : j < s1.ρ.length := by
            have h9 := (List.getElem?_eq_some_iff.mp e3).1
            rw [backS_length] at h9
            have h10 : s2.ρ.length = (L2.wipe σ vs).length := R2.len
            rw [wipe_length] at h10
            rw [R1.len, ← h10]
            exact h9
          rw [backS_in z (by have h9 := (List.getElem?_eq_some_iff.mp e3).1; rwa [backS_length] at h9)] at e3
          have q := List.all_eq_true.mp hfr j z
          rw [Option.some.inj e3] at q
          cases q
        rw [backS_not hj] at e3
        obtain ⟨x', e6, b', rfl, ws', j1, j2, j3, _⟩ := R2.at e3
        rw [wipe_not hj, e4] at e6
        cases e6
        rw [upd_same] at j3
        cases j3
  · simp only [hfr] at F1
    exact F1.elim
theorem pts_none {X : Cx} : PTs X [] (tMT X.K X.mg W0 mYes) := ⟨fun pins s σ H Q I q => pts_nil.run pins s σ H Q I (by
  obtain ⟨ba, O, Hf, s, R, F⟩ := q
  exact F H Hf R (Same.refl _))⟩
/-- a comprehension as a value -/
theorem ev_lc {elt tg iter : Expr} {ifs : List Expr} {scope : Scope} {own : List (Str × Nat)} {pos : Pos} {mi : M (List D)} {t : Tg} {mt : M Bool} {me : M Rv} (hc : X.calm = true) (hN : X.N.Nodup) (hi : EI X E tg iter mi) (ok : BlkOk X.N X.env.scope scope own)
    (hg : ∀ (s : Shared) (H : Hp) (C : Addr) (cl : List (Str × Addr)) (fp : List Addr), EG (X.blk s H scope (compEnvC scope cl C X.env) fp) tg t)
    (ht : ∀ (s : Shared) (H : Hp) (C : Addr) (cl : List (Str × Addr)) (fp : List Addr), PTs (X.blk s H scope (compEnvC scope cl C X.env) fp) ifs (tMT X.K X.mg W0 mt))
    (he : ∀ (s : Shared) (H : Hp) (C : Addr) (cl : List (Str × Addr)) (fp : List Addr), EV (X.blk s H scope (compEnvC scope cl C X.env) fp) W0 elt me)
    (hv : ∀ i ∈ t.slots, i ∈ own.map (·.2) := by decide) (hs : ∀ x, foldedSetIterable iter X.env x = pure x := by intro _; rfl) :
    EV X E (.ListComp elt [⟨tg, iter, ifs, 0⟩] scope pos) (mComp (own.map (·.2)) mi t mt me) :=
  PE.conv (pe_lc hc hN hi ok hg ht he hs) fun σ H Q q => lc_conv hv (fun _ _ _ q => q) q
/-- name = [..] on one line -/
theorem es_setLc {i : Nat} {y : Str} {py : Pos} {elt tg iter : Expr} {ifs : List Expr} {scope : Scope} {own : List (Str × Nat)} {pos spos : Pos} {mi : M (List D)} {t : Tg} {mt : M Bool} {me : M Rv} (hc : X.calm = true) (hN : X.N.Nodup) (hy : X.N[i]? = some y) (hyl : X.env.scope.names.lookup y = some .local)
    (hsw : swapsWith (.ListComp elt [⟨tg, iter, ifs, 0⟩] scope pos) (some (.Name y py)) spos.line X.env = pure true) (hi : EI X E tg iter mi) (ok : BlkOk X.N X.env.scope scope own)
    (hg : ∀ (s : Shared) (H : Hp) (C : Addr) (cl : List (Str × Addr)) (fp : List Addr), EG (X.blk s H scope (compEnvC scope cl C X.env) fp) tg t)
    (ht : ∀ (s : Shared) (H : Hp) (C : Addr) (cl : List (Str × Addr)) (fp : List Addr), PTs (X.blk s H scope (compEnvC scope cl C X.env) fp) ifs (tMT X.K X.mg W0 mt))
    (he : ∀ (s : Shared) (H : Hp) (C : Addr) (cl : List (Str × Addr)) (fp : List Addr), EV (X.blk s H scope (compEnvC scope cl C X.env) fp) W0 elt me)
    (hv : ∀ i ∈ t.slots, i ∈ own.map (·.2) := by decide) (hs : ∀ x, foldedSetIterable iter X.env x = pure x := by intro _; rfl) :
    ES X E (.Assign [.Name y py] (.ListComp elt [⟨tg, iter, ifs, 0⟩] scope pos) spos) (mSet i (mComp (own.map (·.2)) mi t mt me)) :=
  PS.conv (ps_setLc hc hN hy hyl hsw hi ok hg ht he hs) fun D σ H q => by
    obtain ⟨ba, O, Hf, s, R, F⟩ := q
    refine lc_conv (E := E) hv (fun _ _ _ q => q) ⟨ba, O, Hf, s, R, tMS.bind F fun r s' F' v H' Hf' R' e' ok => ?_⟩
    obtain ⟨s2, Hf2, F2, e2, R2⟩ := mStore_ok R' ok F'.bind
    exact F2 _ H' Hf2 R2 (Same.trans e' e2)
end
end Pu
/-! Pu10: comprehensions of two clauses; defs by their meanings. -/
namespace Pu
open PySem PySem.Spec PyProof.Rows L2
def loopC2 (vs vs1 : List Nat) (p : D → M Unit) (mt : M Bool) (mi1 : M (List D)) (p1 : D → M Unit) (mt1 : M Bool) (me : M Rv) : List D → List D → M (List D)
  | [], acc => M.pure acc
  | d :: ds, acc => M.bind (p d) fun _ => M.bind (calm mt) fun b => if b then M.bind (calm mi1) fun ds1 => M.bind (fun s => loopC vs1 p1 mt1 me ds1 acc { s with ρ := wipeS s.ρ vs1 }) fun acc' s =>
      loopC2 vs vs1 p mt mi1 p1 mt1 me ds acc' { s with ρ := wipeS s.ρ vs }
    else fun s => loopC2 vs vs1 p mt mi1 p1 mt1 me ds acc { s with ρ := wipeS s.ρ vs }
def mComp2 (vs vs1 : List Nat) (mi : M (List D)) (t : Tg) (mt : M Bool) (mi1 : M (List D)) (t1 : Tg) (mt1 : M Bool) (me : M Rv) : M Rv := M.bind mi fun ds => fun s => if freeS s.ρ vs then
    (M.bind (loopC2 vs vs1 t.put mt mi1 t1.put mt1 me ds []) fun acc => fun s' => some ({ s' with ρ := backS s.ρ s'.ρ vs }, .ok (.fresh acc))) { s with ρ := wipeS s.ρ vs }
  else none
section
variable {X : Cx} {E : WX}
/-- the end of a block's loop -/
theorem block_end {K : PySem.W.Frag} {ba : Option Addr} {O Hf1 Hf2 H1 H2 : Hp} {σ : St} {s1 s2 : S} {vs : List Nat} {L : Addr} {vsA : List V} {acc : List PyData} (R1 : Rep K ba O Hf1 H1 σ s1) (hfr : freeS s1.ρ vs = true) (f2 : O L = none) (f3 : ba ≠ some L)
    (R2 : Rep K ba (upd O L (.lst vsA)) Hf2 H2 (L2.wipe σ vs) s2) (e2 : Same Hf1 Hf2) (pA : RpL K Hf2 acc vsA) :
    Rep K ba O Hf2 H2 σ { s2 with ρ := backS s1.ρ s2.ρ vs } ∧ RvOk K ba O Hf2 H2 σ { s2 with ρ := backS s1.ρ s2.ρ vs } (.fresh acc) (.ref L) := by
  have RO := R2.less (O := O) (fun b o z => by
    have : b ≠ L := fun z' => by rw [z', f2] at z; cases z
    rw [upd_ne this]; exact z)
  have RB := R1.unwipe hfr RO e2
  have hH : H2 L = some (.lst vsA) := R2.reg.out L _ upd_same
  have hf2 : Hf2 L = none := by
    cases q : Hf2 L with
    | none => rfl
    | some x =>
      have z := R2.reg.dis L (by rw [q]; simp)
      rw [upd_same] at z; cases z
  refine ⟨RB, L, rfl, ⟨vsA, hH, hf2, f2, f3, pA⟩, fun j es e3 e4 => ?_⟩
  have hl : j < s2.ρ.length := by
    have h9 := (List.getElem?_eq_some_iff.mp e3).1
    rwa [backS_length] at h9
  have hj : j ∉ vs := fun z => by
    rw [backS_in z hl] at e3
    have q := List.all_eq_true.mp hfr j z
    rw [Option.some.inj e3] at q
    cases q
  rw [backS_not hj] at e3
  obtain ⟨x', e6, b', rfl, ws', j1, j2, j3, _⟩ := R2.at e3
  rw [wipe_not hj, e4] at e6
  cases e6
  rw [upd_same] at j3
  cases j3
/-- the block's start -/
theorem block_go {K : PySem.W.Frag} {ba : Option Addr} {O Hf1 H1 : Hp} {σ : St} {s1 : S} {vs : List Nat} {L : Addr} (R1 : Rep K ba O Hf1 H1 σ s1) (hD : H1 L = none) : Rep K ba (upd O L (.lst [])) Hf1 (upd H1 L (.lst [])) (L2.wipe σ vs) { s1 with ρ := wipeS s1.ρ vs } := by
  obtain ⟨f1, f2, f3⟩ := R1.reg.free hD
  refine ((R1.grow (o := .lst []) hD).wipe (vs := vs)).outer upd_same f1 f3 fun i es e2 e3 => ?_
  obtain ⟨x', e5, b', rfl, ws', j1, _⟩ := (R1.wipe (vs := vs)).at e2
  rw [e3] at e5
  cases e5
  rw [hD] at j1
  cases j1
theorem lc2_conv {K : PySem.W.Frag} {mg : Str → Option Value} {vs vs1 : List Nat} {mi mi1 : M (List D)} {t t1 : Tg} {mt mt1 : M Bool} {me : M Rv} {σ : St} {H : Hp} {Q : VK} (hv : ∀ i ∈ t.slots, i ∈ vs) (hv1 : ∀ i ∈ t1.slots, i ∈ vs1) (hvv : ∀ i ∈ vs1, i ∈ vs)
    (q : tM K mg E (mComp2 vs vs1 mi t mt mi1 t1 mt1 me) σ H Q) : tLc2 (iM K mg E mi) (tMG K t.slots t.put) (tMT K mg W0 mt) (iM K mg W0 mi1) (tMG K t1.slots t1.put) (tMT K mg W0 mt1) (tM K mg W0 me) vs vs1 σ H Q := by
  obtain ⟨ba, O, Hf, s, R0, F⟩ := q
  refine ⟨ba, O, Hf, s, R0, F.bind.imp (fun ds s1 F1 J H1 Hf1 R1 e1 it => ?_) fun x s' q => q⟩
  intro L hD
  by_cases hfr : freeS s1.ρ vs = true
  · simp only [hfr, if_true] at F1
    obtain ⟨f1, f2, f3⟩ := R1.reg.free hD
    let Post : List PyData → S → Prop := fun acc s' => ∀ v H' Hf', Rep K ba O Hf' H' σ { s' with ρ := backS s1.ρ s'.ρ vs } → Same Hf1 Hf' → RvOk K ba O Hf' H' σ { s' with ρ := backS s1.ρ s'.ρ vs } (.fresh acc) v → Q v H'
    have F2 : Fits (loopC2 vs vs1 t.put mt mi1 t1.put mt1 me ds [] { s1 with ρ := wipeS s1.ρ vs }) Post fun _ _ => True :=
      F1.bind.imp (fun acc s' h v H' Hf' R' e' ok' => h v H' Hf' R' (Same.trans e1 e') ok') fun _ _ _ => trivial
    refine ⟨fun i m H => ∃ Hf2 s2 acc vsA, Rep K ba (upd O L (.lst vsA)) Hf2 H (L2.wipe σ vs) s2 ∧ RpL K Hf2 acc vsA ∧ Same Hf1 Hf2 ∧ m = ds.length - i ∧ i ≤ ds.length ∧ Fits (loopC2 vs vs1 t.put mt mi1 t1.put mt1 me (ds.drop i) acc s2) Post fun _ _ => True,
      ⟨ds.length, Hf1, _, [], [], block_go R1 hD, RpL.nil, Same.refl _, rfl, Nat.zero_le _, F2⟩, ?_⟩
    rintro i m H2 ⟨Hf2, s2, acc, vsA, R2, pA, e2, rfl, hl, F3⟩
    have it2 := it.mono e2
    by_cases hi : i < ds.length
    · rw [List.drop_eq_getElem_cons hi] at F3
      unfold loopC2 at F3
      refine .inr ⟨it2.go i H2 R2.reg.sub hi, fun H' => ∃ Hf3 s3 acc' vsA', Rep K ba (upd O L (.lst vsA')) Hf3 H' (L2.wipe σ vs) s3 ∧ RpL K Hf3 acc' vsA' ∧ Same Hf1 Hf3 ∧ Fits (loopC2 vs vs1 t.put mt mi1 t1.put mt1 me (ds.drop (i + 1)) acc' s3) Post fun _ _ => True, fun H' n => ?_, fun x H' y => ?_⟩
      · obtain ⟨Hf3, s3, acc', vsA', R3, p3, e3, F4⟩ := n
        exact ⟨ds.length - (i + 1), by omega, Hf3, s3, acc', vsA', R3, p3, e3, rfl, hi, F4⟩
      · obtain ⟨Hf3, e3, R3, p3⟩ := R2.item (it2.yld i H2 x H' ds[i] R2.reg.sub (List.getElem?_eq_getElem hi) y)
        refine ⟨ba, upd O L (.lst vsA), Hf3, s2, ds[i], R3, p3, (Fits.put F3.bind).imp (fun _ s4 F4 σ4 H4 Hf4 R4 e4 on => ?_) fun x s' q => q⟩
        have w4 : L2.wipe σ4 vs = L2.wipe σ vs := by rw [on.wipe hv, wipe_twice]
        refine ⟨w4, ba, upd O L (.lst vsA), Hf4, s4, R4, F4.bind.calm.imp (fun b s5 F5 H5 Hf5 R5 e5 => ?_) fun x s' q => q⟩
        have e25 : Same Hf2 Hf5 := Same.trans e3 (Same.trans e4 e5)
        cases b with
        | true =>
          refine iteT ⟨ba, upd O L (.lst vsA), Hf5, s5, R5, (Fits.bind F5).calm.imp (fun ds1 s6 F6 J1 H6 Hf6 R6 e6 it6 => ?_) fun x s' q => q⟩
          have e26 : Same Hf2 Hf6 := Same.trans e25 e6
          -- the second clause's loop
          let PostI : List PyData → S → Prop := fun acc' s' => Fits (loopC2 vs vs1 t.put mt mi1 t1.put mt1 me (ds.drop (i + 1)) acc' { s' with ρ := wipeS s'.ρ vs }) Post fun _ _ => True
          have F7 : Fits (loopC vs1 t1.put mt1 me ds1 acc { s6 with ρ := wipeS s6.ρ vs1 }) PostI fun _ _ => True := F6.bind.imp (fun _ _ q => q) fun _ _ q => q
          refine ⟨fun j k H => ∃ Hf7 s7 acc7 vs7, Rep K ba (upd O L (.lst vs7)) Hf7 H (L2.wipe σ4 vs1) s7 ∧ RpL K Hf7 acc7 vs7 ∧ Same Hf6 Hf7 ∧ k = ds1.length - j ∧ j ≤ ds1.length ∧ Fits (loopC vs1 t1.put mt1 me (ds1.drop j) acc7 s7) PostI fun _ _ => True,
            ⟨ds1.length, Hf6, _, acc, vsA, R6.wipe, RpL.mono e26 _ _ pA, Same.refl _, rfl, Nat.zero_le _, F7⟩, ?_⟩
          rintro j k H7 ⟨Hf7, s7, acc7, vs7, R7, p7, e7, rfl, hl7, F8⟩
          have it7 := it6.mono e7
          by_cases hj : j < ds1.length
          · rw [List.drop_eq_getElem_cons hj] at F8
            unfold loopC at F8
            refine .inr ⟨it7.go j H7 R7.reg.sub hj, fun H' => ∃ Hf8 s8 acc8 vs8, Rep K ba (upd O L (.lst vs8)) Hf8 H' (L2.wipe σ4 vs1) s8 ∧ RpL K Hf8 acc8 vs8 ∧ Same Hf6 Hf8 ∧ Fits (loopC vs1 t1.put mt1 me (ds1.drop (j + 1)) acc8 s8) PostI fun _ _ => True, fun H' n => ?_, fun x8 H8 y8 => ?_⟩
            · obtain ⟨Hf8, s8, acc8, vs8, R8, p8, e8, F9⟩ := n
              exact ⟨ds1.length - (j + 1), by omega, Hf8, s8, acc8, vs8, R8, p8, e8, rfl, hj, F9⟩
            · obtain ⟨Hf8, e8, R8, p8⟩ := R7.item (it7.yld j H7 x8 H8 ds1[j] R7.reg.sub (List.getElem?_eq_getElem hj) y8)
              refine ⟨ba, upd O L (.lst vs7), Hf8, s7, ds1[j], R8, p8, (Fits.put F8.bind).imp (fun _ s9 F9 σ9 H9 Hf9 R9 e9 on9 => ?_) fun x s' q => q⟩
              have w9 : L2.wipe σ9 vs1 = L2.wipe σ4 vs1 := by rw [on9.wipe hv1, wipe_twice]
              refine ⟨w9, ba, upd O L (.lst vs7), Hf9, s9, R9, F9.bind.calm.imp (fun b s10 F10 H10 Hf10 R10 e10 => ?_) fun x s' q => q⟩
              have e710 : Same Hf7 Hf10 := Same.trans e8 (Same.trans e9 e10)
              cases b with
              | true =>
                refine iteT ⟨ba, upd O L (.lst vs7), Hf10, s10, R10, (Fits.bind F10).calm.imp (fun r s11 F11 v H11 Hf11 R11 e11 ok11 => ?_) fun x s' q => q⟩
                obtain ⟨y', s12, Hf12, F12, e12, R12, p12⟩ := retain_ok R11 ok11 F11.bind
                have hD7 : H11 L = some (.lst vs7) := R12.reg.out L _ upd_same
                by_cases hz : acc7.length < sizeLine
                · simp only [if_pos hz] at F12
                  refine ⟨vs7, hD7, by rw [p7.length]; exact hz, Hf12, _, acc7 ++ [y'], vs7 ++ [v], ?_, ?_, Same.trans e7 (Same.trans e710 (Same.trans e11 e12)), F12⟩
                  · have := (R12.wipe (vs := vs1)).change (o' := .lst (vs7 ++ [v]))
                    rw [w9] at this
                    exact this
                  · exact (RpL.mono (Same.trans e710 (Same.trans e11 e12)) _ _ p7).append (RpL.cons p12 RpL.nil)
                · simp only [if_neg hz] at F12
                  exact F12.elim
              | false =>
                refine iteF ⟨Hf10, _, acc7, vs7, ?_, RpL.mono e710 _ _ p7, Same.trans e7 e710, F10⟩
                have := R10.wipe (vs := vs1)
                rw [w9] at this
                exact this
          · rw [List.drop_eq_nil_of_le (by omega)] at F8
            unfold loopC at F8
            have F9 : PostI acc7 s7 := F8
            refine .inl ⟨it7.stop j H7 R7.reg.sub (by omega), Hf7, _, acc7, vs7, ?_, p7, Same.trans e2 (Same.trans e26 e7), F9⟩
            have := R7.wipe (vs := vs)
            rw [(Only.of_wipe (vs := vs1) σ4).wipe hvv, w4] at this
            exact this
        | false =>
          refine iteF ⟨Hf5, _, acc, vsA, ?_, RpL.mono e25 _ _ pA, Same.trans e2 e25, F5⟩
          have := R5.wipe (vs := vs)
          rw [w4] at this
          exact this
    · rw [List.drop_eq_nil_of_le (by omega)] at F3
      unfold loopC2 at F3
      have F4 : Post acc s2 := F3
      obtain ⟨RB, ok⟩ := block_end R1 hfr f2 f3 R2 e2 pA
      exact .inl ⟨it2.stop i H2 R2.reg.sub (by omega), F4 _ H2 Hf2 RB e2 ok⟩
  · simp only [hfr] at F1
    exact F1.elim
theorem ev_lc2 {elt tg iter tg1 iter1 : Expr} {ifs ifs1 : List Expr} {scope : Scope} {own : List (Str × Nat)} {vs1 : List Nat} {pos : Pos} {mi mi1 : M (List D)} {t t1 : Tg} {mt mt1 : M Bool} {me : M Rv} (hc : X.calm = true) (hN : X.N.Nodup) (hi : EI X E tg iter mi) (ok : BlkOk X.N X.env.scope scope own)
    (hg : ∀ (s : Shared) (H : Hp) (C : Addr) (cl : List (Str × Addr)) (fp : List Addr), EG (X.blk s H scope (compEnvC scope cl C X.env) fp) tg t)
    (ht : ∀ (s : Shared) (H : Hp) (C : Addr) (cl : List (Str × Addr)) (fp : List Addr), PTs (X.blk s H scope (compEnvC scope cl C X.env) fp) ifs (tMT X.K X.mg W0 mt))
    (hi1 : ∀ (s : Shared) (H : Hp) (C : Addr) (cl : List (Str × Addr)) (fp : List Addr), EI (X.blk s H scope (compEnvC scope cl C X.env) fp) W0 tg1 iter1 mi1)
    (hg1 : ∀ (s : Shared) (H : Hp) (C : Addr) (cl : List (Str × Addr)) (fp : List Addr), EG (X.blk s H scope (compEnvC scope cl C X.env) fp) tg1 t1)
    (ht1 : ∀ (s : Shared) (H : Hp) (C : Addr) (cl : List (Str × Addr)) (fp : List Addr), PTs (X.blk s H scope (compEnvC scope cl C X.env) fp) ifs1 (tMT X.K X.mg W0 mt1))
    (he : ∀ (s : Shared) (H : Hp) (C : Addr) (cl : List (Str × Addr)) (fp : List Addr), EV (X.blk s H scope (compEnvC scope cl C X.env) fp) W0 elt me)
    (hv : ∀ i ∈ t.slots, i ∈ own.map (·.2) := by decide) (hv1 : ∀ i ∈ t1.slots, i ∈ vs1 := by decide) (hvv : ∀ i ∈ vs1, i ∈ own.map (·.2) := by decide) (hs : ∀ x, foldedSetIterable iter X.env x = pure x := by intro _; rfl) (hs1 : ∀ env x, foldedSetIterable iter1 env x = pure x := by intro _ _; rfl) :
    EV X E (.ListComp elt [⟨tg, iter, ifs, 0⟩, ⟨tg1, iter1, ifs1, 0⟩] scope pos) (mComp2 (own.map (·.2)) vs1 mi t mt mi1 t1 mt1 me) :=
  PE.conv (pe_lc2 hc hN hi ok hvv hg ht hi1 hg1 ht1 he hs hs1) fun σ H Q q => lc2_conv hv hv1 hvv q
theorem es_setLc2 {i : Nat} {y : Str} {py : Pos} {elt tg iter tg1 iter1 : Expr} {ifs ifs1 : List Expr} {scope : Scope} {own : List (Str × Nat)} {vs1 : List Nat} {pos spos : Pos} {mi mi1 : M (List D)} {t t1 : Tg} {mt mt1 : M Bool} {me : M Rv} (hc : X.calm = true) (hN : X.N.Nodup) (hy : X.N[i]? = some y) (hyl : X.env.scope.names.lookup y = some .local)
    (hsw : swapsWith (.ListComp elt [⟨tg, iter, ifs, 0⟩, ⟨tg1, iter1, ifs1, 0⟩] scope pos) (some (.Name y py)) spos.line X.env = pure true) (hi : EI X E tg iter mi) (ok : BlkOk X.N X.env.scope scope own)
    (hg : ∀ (s : Shared) (H : Hp) (C : Addr) (cl : List (Str × Addr)) (fp : List Addr), EG (X.blk s H scope (compEnvC scope cl C X.env) fp) tg t)
    (ht : ∀ (s : Shared) (H : Hp) (C : Addr) (cl : List (Str × Addr)) (fp : List Addr), PTs (X.blk s H scope (compEnvC scope cl C X.env) fp) ifs (tMT X.K X.mg W0 mt))
    (hi1 : ∀ (s : Shared) (H : Hp) (C : Addr) (cl : List (Str × Addr)) (fp : List Addr), EI (X.blk s H scope (compEnvC scope cl C X.env) fp) W0 tg1 iter1 mi1)
    (hg1 : ∀ (s : Shared) (H : Hp) (C : Addr) (cl : List (Str × Addr)) (fp : List Addr), EG (X.blk s H scope (compEnvC scope cl C X.env) fp) tg1 t1)
    (ht1 : ∀ (s : Shared) (H : Hp) (C : Addr) (cl : List (Str × Addr)) (fp : List Addr), PTs (X.blk s H scope (compEnvC scope cl C X.env) fp) ifs1 (tMT X.K X.mg W0 mt1))
    (he : ∀ (s : Shared) (H : Hp) (C : Addr) (cl : List (Str × Addr)) (fp : List Addr), EV (X.blk s H scope (compEnvC scope cl C X.env) fp) W0 elt me)
    (hv : ∀ i ∈ t.slots, i ∈ own.map (·.2) := by decide) (hv1 : ∀ i ∈ t1.slots, i ∈ vs1 := by decide) (hvv : ∀ i ∈ vs1, i ∈ own.map (·.2) := by decide) (hs : ∀ x, foldedSetIterable iter X.env x = pure x := by intro _; rfl) (hs1 : ∀ env x, foldedSetIterable iter1 env x = pure x := by intro _ _; rfl) :
    ES X E (.Assign [.Name y py] (.ListComp elt [⟨tg, iter, ifs, 0⟩, ⟨tg1, iter1, ifs1, 0⟩] scope pos) spos) (mSet i (mComp2 (own.map (·.2)) vs1 mi t mt mi1 t1 mt1 me)) :=
  PS.conv (ps_setLc2 hc hN hy hyl hsw hi ok hvv hg ht hi1 hg1 ht1 he hs hs1) fun D σ H q => by
    obtain ⟨ba, O, Hf, s, R, F⟩ := q
    refine lc2_conv (E := E) hv hv1 hvv ⟨ba, O, Hf, s, R, tMS.bind F fun r s' F' v H' Hf' R' e' ok => ?_⟩
    obtain ⟨s2, Hf2, F2, e2, R2⟩ := mStore_ok R' ok F'.bind
    exact F2 _ H' Hf2 R2 (Same.trans e' e2)
theorem pts_m {c : Expr} {X : Cx} {mt : M Bool} (h : ET X W0 c mt) : PTs X [c] (tMT X.K X.mg W0 mt) := pts_one h
end
/-! ### defs by their meanings -/
def resOf (s : S) : Rv → Option Rs
  | .dat d => some (.dat d)
  | .fresh ds => some (.fresh ds)
  | .slot i => match s.ρ[i]? with
    | some (.own ds) => some (.fresh ds)
    | _ => none
  | .bag => none
  | .ob n => some (.ob n)
  | .freshK kvs => some (.dat (.dict kvs))
def slAr : Ar → Sl
  | .dat d => .dat d
  | .bag => .bag
  | .ob n => .ob n
/-- a def's names at the entry: n names in all -/
def begin (n : Nat) (as : List Ar) : List Sl := as.map slAr ++ List.replicate (n - as.length) .no
def runDef (n : Nat) (m : M Fl) : Fn := fun β as => match m ⟨begin n as, β⟩ with
  | some (s, .ok .nx) => some (s.β, .ok (.dat .none))
  | some (s, .ok (.rt r)) => (resOf s r).map fun x => (s.β, .ok x)
  | some (s, .error x) => some (s.β, .error x)
  | _ => none
theorem rep_begin {K : PySem.W.Frag} {ba : Option Addr} {O Hf H : Hp} {β : Bag} {N : List Str} {as : List Ar} {vs : List V} (R : Reg K ba O Hf H β) (h : ArL K ba Hf as vs) : Rep K ba O Hf H (start N vs) ⟨begin N.length as, β⟩ := by
  have hl := h.length
  have look : ∀ {i : Nat} {sl : Sl}, (begin N.length as)[i]? = some sl → (∃ a, as[i]? = some a ∧ sl = slAr a) ∨ (as.length ≤ i ∧ sl = .no) := fun {i sl} e => by
    unfold begin at e
    by_cases hi : i < as.length
    · rw [List.getElem?_append_left (by simpa using hi), List.getElem?_map] at e
      cases q : as[i]? with
      | none => (rw [q] at e; cases e)
      | some a => rw [q] at e; exact .inl ⟨a, rfl, (Option.some.inj e).symm⟩
    · rw [List.getElem?_append_right (by simpa using hi), List.getElem?_replicate] at e
      split at e
      · exact .inr ⟨by omega, (Option.some.inj e).symm⟩
      · cases e
  have at' : ∀ {as : List Ar} {vs : List V} {i : Nat} {a : Ar}, ArL K ba Hf as vs → as[i]? = some a → ∃ v, vs[i]? = some v ∧ ArOk K ba Hf a v := by
    intro as
    induction as with
    | nil => intro vs i a _ e; simp at e
    | cons b as ih =>
      rintro vs i a ⟨v, r, rfl, h2, h3⟩ e
      cases i with
      | zero => simp at e; subst e; exact ⟨v, rfl, h2⟩
      | succ i =>
        obtain ⟨w, e1, e2⟩ := ih h3 (i := i) (by simpa using e)
        exact ⟨w, by simpa using e1, e2⟩
  have noOwn : ∀ (i : Nat) ds, (begin N.length as)[i]? ≠ some (.own ds) := fun i ds e => by
    rcases look e with ⟨a, _, z⟩ | ⟨_, z⟩
    · cases a <;> cases z
    · cases z
  refine ⟨R, ?_, fun i sl x e1 e2 => ?_, fun i j ds es x _ e1 => absurd e1 (noOwn i ds)⟩
  · unfold begin L2.start
    simp only [List.length_append, List.length_map, List.length_replicate]
    omega
  · rcases look e1 with ⟨a, k1, rfl⟩ | ⟨_, rfl⟩
    · obtain ⟨v, k2, k3⟩ := at' h k1
      have hi : i < vs.length := (List.getElem?_eq_some_iff.mp k2).1
      have e2' : (start N vs)[i]? = some x := e2
      unfold L2.start at e2'
      rw [List.getElem?_append_left (by simpa using hi), List.getElem?_map, k2] at e2'
      cases e2'
      cases a with
      | dat d => exact ⟨v, rfl, k3⟩
      | bag => obtain ⟨b, z1, z2⟩ := k3; exact ⟨b, z1, by rw [z2]⟩
      | ob n => obtain ⟨b, z1, z2⟩ := k3; exact ⟨b, by rw [z1], z2⟩
    · trivial
/-- the end of a def -/
theorem def_conv {K : PySem.W.Frag} {mg : Str → Option Value} {N : List Str} {n : Nat} {m : M Fl} {f : Fn} (hf : ∀ β as r, as.length = n → f β as = some r → runDef N.length m β as = some r) {vs : List V} {H : Hp} {Q : VK} {E : XK} (h : SpM K mg n f vs H Q E) :
    tMS K mg (fun c d _ H => E c d H) m { nx := fun _ H' => Q .non H', rt := Q } (start N vs) H := by
  obtain ⟨ba, O, Hf, β, as, r, β', hn, R, a, ef, post⟩ := h
  have e := hf β as _ hn ef
  unfold runDef at e
  refine ⟨ba, O, Hf, _, rep_begin R a, ?_⟩
  cases em : m ⟨begin N.length as, β⟩ with
  | none => rw [em] at e; cases e
  | some q =>
    obtain ⟨s', z⟩ := q
    rw [em] at e
    cases z with
    | error x =>
      cases e
      intro σ' H' Hf' c d R' e' ex
      exact post H' Hf' c d R'.reg e' ex
    | ok fl =>
      cases fl with
      | nx =>
        cases e
        intro σ' H' Hf' R' e'
        exact post _ H' Hf' R'.reg e' (show Rp K Hf' .none .non by simp only [Rp])
      | rt rv =>
        obtain ⟨x, ex, ez⟩ := Option.map_eq_some_iff.mp e
        cases ez
        intro σ' H' Hf' R' e' v ok
        cases rv with
        | freshK kvs =>
          cases ex
          obtain ⟨Hf2, e2, R2, p2⟩ := R'.freezeK ok
          exact post v H' Hf2 R2.reg (Same.trans e' e2) p2
        | ob n => cases ex; exact post v H' Hf' R'.reg e' ok
        | dat d => cases ex; exact post v H' Hf' R'.reg e' ok
        | fresh ds => cases ex; obtain ⟨a, k1, k2, _⟩ := ok; exact post _ H' Hf' R'.reg e' ⟨a, k1, k2⟩
        | slot i =>
          refine post v H' Hf' R'.reg e' ?_
          obtain ⟨ds, k1, k2⟩ := ok
          unfold resOf at ex
          simp only [k1] at ex
          cases ex
          obtain ⟨a, k3, k4⟩ := R'.slot i _ _ k1 k2
          cases k3
          exact ⟨a, rfl, k4⟩
        | bag => cases ex
      | bk => cases e
      | ct => cases e
/-- THE RULE for a def -/
theorem fnM {P : Program} {w : World} {K : PySem.W.Frag} {mg : Str → Option Value} {base : Heap} {k : Nat} {f : Addr} {x qual : Str} {st : Stmt} {fd : FuncData} {N ps : List Str} {F : Fn} {m : M Fl}
    (U : Fun K x qual st f fd) (Sc : FnScope N ps (defScope st))
    (body : ∀ (cdv : Value) (A : Around) (outer : List Env) (s : Shared) (H : Hp) (E : XK), A.guards = some [] → Room k (A.deeper (envOfC qual (defScope st) s.heap.objs.size f cdv)) →
      ESs (cxOf (L2.CX P w) P w K mg base N qual (defScope st) f cdv A outer s H E) (fun c d _ H => E c d H) (defBody st) m)
    (hf : ∀ β as r, as.length = ps.length → F β as = some r → runDef N.length m β as = some r) : FnG P w K mg base (L2.CX P w) (k + 1) f fd ps (SpM K mg ps.length F) :=
  fnG_of U Sc (fun vs H Q E h => by
    obtain ⟨ba, O, Hf, β, as, r, β', hn, R, a, ef, post⟩ := h
    rw [a.length, hn]) fun cdv A outer s H vs Q E _ hg hr h => ⟨_, body cdv A outer s H E hg hr, def_conv hf h⟩
end Pu
/-! Pu11: built-in functions. -/
namespace Pu
open PySem PySem.Spec PyProof.Rows L2
section
variable {X : Cx} {E : WX} {x : Str} {p p2 pos : Pos} {e e2 : Expr} {m m2 : M Rv} {id T : String} {r : List V → Hp → VK → Prop}
/-- a built-in function of one argument -/
theorem ev_b1 {f : D → Option Rs} (hc : CallR X (.builtin id) r) (hf : Op1 X.K (fun v => r [v]) f) (hg : Gl X x) (hm : X.mg x = none) (hv : bootBuiltins x = some (.builtin id)) (ha : EV X E e m) (hn : x ≠ "__name__" := by decide) (hdb : (x == ("__debug__" : Str)) = false := by decide)
    (na : starEach [e] X.env = (false, eval e X.env) :: starEach [] X.env := by rfl) : EV X E (.Call (.Name x p) [e] [] pos) (mUn f m) :=
  PE.conv (pe_callB hc hg hm hv (pa_cons ha pa_nil na) hn hdb na) fun σ H Q q => un_conv (r := fun v => r [v]) hf q
theorem ev_t1 {f : D → Option Rs} (hc : CallR X (.type T) r) (hf : Op1 X.K (fun v => r [v]) f) (hg : Gl X x) (hm : X.mg x = none) (hv : bootBuiltins x = some (.type T)) (ha : EV X E e m) (hn : x ≠ "__name__" := by decide) (hdb : (x == ("__debug__" : Str)) = false := by decide)
    (na : starEach [e] X.env = (false, eval e X.env) :: starEach [] X.env := by rfl) : EV X E (.Call (.Name x p) [e] [] pos) (mUn f m) :=
  PE.conv (pe_callTy hc hg hm hv (pa_cons ha pa_nil na) hn hdb na) fun σ H Q q => un_conv (r := fun v => r [v]) hf q
/-- of two -/
theorem ev_b2 {f : D → D → Option Rs} (hc : CallR X (.builtin id) r) (hf : Op2 X.K (fun v w => r [v, w]) f) (hg : Gl X x) (hm : X.mg x = none) (hv : bootBuiltins x = some (.builtin id)) (ha : EV X E e m) (hb : EV X E e2 m2) (hn : x ≠ "__name__" := by decide) (hdb : (x == ("__debug__" : Str)) = false := by decide)
    (na : starEach [e, e2] X.env = (false, eval e X.env) :: starEach [e2] X.env := by rfl) (nb : starEach [e2] X.env = (false, eval e2 X.env) :: starEach [] X.env := by rfl) (hpl : (backTo pos (starEach [e2] X.env)).any (·.1) = false := by rfl) : EV X E (.Call (.Name x p) [e, e2] [] pos) (mBin f m m2) :=
  PE.conv (pe_callB hc hg hm hv (pa_cons ha (pa_cons hb pa_nil nb) na) hn hdb na hpl) fun σ H Q q => bin_conv (r := fun v w => r [v, w]) hf q
/-- isinstance(e, T) -/
theorem ev_isi {f : D → Option Rs} {y : Str} (hc : CallR X (.builtin "isinstance") r) (hf : Op1 X.K (fun v => r [v, .ty T]) f) (hg : Gl X "isinstance") (hm : X.mg "isinstance" = none) (hg2 : Gl X y) (hm2 : X.mg y = none) (hv2 : bootBuiltins y = some (.type T)) (ha : EV X E e m) (hn : y ≠ "__name__" := by decide) (hdb : (y == ("__debug__" : Str)) = false := by decide)
    (na : starEach [e, .Name y p2] X.env = (false, eval e X.env) :: starEach [.Name y p2] X.env := by rfl) (nb : starEach [.Name y p2] X.env = (false, eval (.Name y p2) X.env) :: starEach [] X.env := by rfl) (hpl : (backTo pos (starEach [.Name y p2] X.env)).any (·.1) = false := by rfl)
    (hv : bootBuiltins "isinstance" = some (.builtin "isinstance") := by decide +kernel) : EV X E (.Call (.Name "isinstance" p) [e, .Name y p2] [] pos) (mUn f m) :=
  PE.conv (pe_callB hc hg hm hv (pa_cons ha (pa_cons (pe_bltn (v := .ty T) hg2 hm2 hv2 rfl hn hdb) pa_nil nb) na) (by decide) (by decide) na hpl) fun σ H Q q => un_conv (r := fun v => r [v, .ty T]) hf q
/-! the data's side -/
def dLen : D → Option Rs
  | .list xs => some (.dat (.int xs.length))
  | .tuple xs => some (.dat (.int xs.length))
  | .str x => if x.length ≤ sizeLine then some (.dat (.int x.length)) else none
  | _ => none
theorem o1_len : Op1 X.K (fun v H Q => ∃ x n, [v] = [x] ∧ LenV X.K x H n ∧ Q (.int n) H) dLen := by
  intro Hf H d x res Q e b er q
  cases d with
  | list ds =>
    cases er
    obtain ⟨a, vs, rfl, h1, h2⟩ := brp_list e b
    exact ⟨_, _, rfl, .inl ⟨vs, h1, rfl⟩, by rw [h2.length]; exact q _ _ (.old (by simp only [Rp]))⟩
  | tuple ds =>
    cases er
    obtain ⟨a, vs, rfl, h1, h2⟩ := brp_tup e b
    exact ⟨_, _, rfl, .inr ⟨vs, h1, rfl⟩, by rw [h2.length]; exact q _ _ (.old (by simp only [Rp]))⟩
  | str y =>
    simp only [dLen] at er
    split at er
    · cases er
      obtain rfl := brp_str b
      exact ⟨_, _, rfl, ⟨by assumption, rfl⟩, q _ _ (.old (by simp only [Rp]))⟩
    · cases er
  | _ => cases er
def dInt : D → Option Rs
  | .int i => some (.dat (.int i))
  | .bool k => some (.dat (.int (if k then 1 else 0)))
  | _ => none
theorem o1_int {K : PySem.W.Frag} : Op1 K (fun v H Q => (∃ i, [v] = [V.int i] ∧ Q (.int i) H) ∨ ∃ k, [v] = [V.bl k] ∧ Q (.int (if k then 1 else 0)) H) dInt := by
  intro Hf H d x res Q e b er q
  cases d with
  | int i =>
    cases er
    obtain rfl := brp_int b
    exact .inl ⟨i, rfl, q _ _ (.old (by simp only [Rp]))⟩
  | bool k =>
    cases er
    obtain rfl := brp_bl b
    exact .inr ⟨k, rfl, q _ _ (.old (by simp only [Rp]))⟩
  | _ => cases er
def dAbs : D → Option Rs
  | .int i => some (.dat (.int (if i < 0 then -i else i)))
  | _ => none
theorem o1_abs {K : PySem.W.Frag} : Op1 K (fun v H Q => ∃ i, [v] = [V.int i] ∧ Q (.int (if i < 0 then -i else i)) H) dAbs := by
  intro Hf H d x res Q e b er q
  cases d with
  | int i =>
    cases er
    obtain rfl := brp_int b
    exact ⟨i, rfl, q _ _ (.old (by simp only [Rp]))⟩
  | _ => cases er
def dMax (a b : D) : Option Rs := match a, b with
  | .int i, .int j => some (.dat (.int (if j > i then j else i)))
  | _, _ => none
theorem o2_max {K : PySem.W.Frag} : Op2 K (fun v w H Q => ∃ i j, [v, w] = [V.int i, V.int j] ∧ Q (.int (if j > i then j else i)) H) dMax := by
  intro Hf H d1 d2 x y res Q e b1 b2 er q
  unfold dMax at er
  split at er
  · cases er
    obtain rfl := brp_int b1
    obtain rfl := brp_int b2
    exact ⟨_, _, rfl, q _ _ (.old (by simp only [Rp]))⟩
  · cases er
def dTuple : D → Option Rs
  | .list xs => some (.dat (.tuple xs))
  | .tuple xs => some (.dat (.tuple xs))
  | _ => none
theorem o1_tuple : Op1 X.K (fun v H Q => ∃ p ys, [v] = [V.ref p] ∧ ((SqL X.K H p ys ∧ ∀ l, H l = none → Q (.ref l) (upd H l (.tup ys))) ∨ (SqT X.K H p ys ∧ Q (.ref p) H))) dTuple := by
  intro Hf H d x res Q e b er q
  cases d with
  | list ds =>
    cases er
    obtain ⟨a, vs, rfl, h1, h2⟩ := brp_list e b
    exact ⟨_, _, rfl, .inl ⟨h1, fun l hl => q _ _ (.tup hl h2)⟩⟩
  | tuple ds =>
    cases er
    rcases b with b | ⟨_, _, _, _, _, z, _⟩ | ⟨_, _, _, _, _, z, _⟩
    · have b' := b
      simp only [Rp] at b
      obtain ⟨a, vs, rfl, h1, h2⟩ := b
      exact ⟨_, _, rfl, .inr ⟨Sub.sqT e h1, q _ _ (.old b')⟩⟩
    · cases z
    · cases z
  | _ => cases er
def dList : D → Option Rs
  | .list xs => some (.fresh xs)
  | .tuple xs => some (.fresh xs)
  | _ => none
theorem o1_list : Op1 X.K (fun v H Q => ∃ p ys, [v] = [V.ref p] ∧ (SqL X.K H p ys ∨ SqT X.K H p ys) ∧ ∀ l, H l = none → Q (.ref l) (upd H l (.lst ys))) dList := by
  intro Hf H d x res Q e b er q
  cases d with
  | list ds =>
    cases er
    obtain ⟨a, vs, rfl, h1, h2⟩ := brp_list e b
    exact ⟨_, _, rfl, .inl (h1), fun l hl => q _ _ (.lst hl h2)⟩
  | tuple ds =>
    cases er
    obtain ⟨a, vs, rfl, h1, h2⟩ := brp_tup e b
    exact ⟨_, _, rfl, .inr h1, fun l hl => q _ _ (.lst hl h2)⟩
  | _ => cases er
end
section
variable {X : Cx}
/-! isinstance -/
def rIsD (T : String) (K : PySem.W.Frag) (f : D → Bool) : List V → Hp → VK → Prop := fun xs H Q => ∃ v Hf d, xs = [v, .ty T] ∧ Sub Hf H ∧ BRp K Hf H d v ∧ d.plain = true ∧ Q (.bl (f d)) H
def dIs (f : D → Bool) : D → Option Rs := fun d => if d.plain then some (.dat (.bool (f d))) else none
theorem o1_is {T : String} {f : D → Bool} : Op1 X.K (fun v => rIsD T X.K f [v, .ty T]) (dIs f) := by
  intro Hf H d x res Q e b er q
  unfold dIs at er
  split at er
  · cases er
    exact ⟨x, Hf, d, rfl, e, b, by assumption, q _ _ (.old (by simp only [Rp]))⟩
  · cases er
theorem call_isInt : CallR X (.builtin "isinstance") (rIsD "int" X.K PyData.isInt) := by
  (intro pins s σ H xs us Q I r h)
  obtain ⟨v, Hf, d, rfl, e, b, p, q⟩ := h
  cases r with
  | cons rx rr => cases rr with
    | cons rt rr =>
      cases rr
      cases rt
      obtain ⟨as, r1⟩ := reads_b I e b rx p
      exact PySem.W.isinstance_int_data r1 fun tk _ => ⟨.bl _, H, I.tok _, rfl, q⟩
theorem call_isBool : CallR X (.builtin "isinstance") (rIsD "bool" X.K PyData.isBool) := by
  (intro pins s σ H xs us Q I r h)
  obtain ⟨v, Hf, d, rfl, e, b, p, q⟩ := h
  cases r with
  | cons rx rr => cases rr with
    | cons rt rr =>
      cases rr
      cases rt
      obtain ⟨as, r1⟩ := reads_b I e b rx p
      exact PySem.W.isinstance_bool_data r1 fun tk _ => ⟨.bl _, H, I.tok _, rfl, q⟩
theorem call_isStr : CallR X (.builtin "isinstance") (rIsD "str" X.K PyData.isStr) := by
  (intro pins s σ H xs us Q I r h)
  obtain ⟨v, Hf, d, rfl, e, b, p, q⟩ := h
  cases r with
  | cons rx rr => cases rr with
    | cons rt rr =>
      cases rr
      cases rt
      obtain ⟨as, r1⟩ := reads_b I e b rx p
      exact PySem.W.isinstance_str_data r1 fun tk _ => ⟨.bl _, H, I.tok _, rfl, q⟩
theorem call_isTuple : CallR X (.builtin "isinstance") (rIsD "tuple" X.K PyData.isTuple) := by
  (intro pins s σ H xs us Q I r h)
  obtain ⟨v, Hf, d, rfl, e, b, p, q⟩ := h
  cases r with
  | cons rx rr => cases rr with
    | cons rt rr =>
      cases rr
      cases rt
      obtain ⟨as, r1⟩ := reads_b I e b rx p
      exact PySem.W.isinstance_tuple_data r1 fun tk _ => ⟨.bl _, H, I.tok _, rfl, q⟩
/-! repr -/
def rRepD (K : PySem.W.Frag) : List V → Hp → VK → Prop := fun xs H Q => ∃ v Hf d, xs = [v] ∧ Sub Hf H ∧ BRp K Hf H d v ∧ ((∃ i, d = .int i ∧ i.natAbs.log2 < 1920 ∧ Q (.str (toString i)) H) ∨
  ((∃ ds, d = .list ds ∨ d = .tuple ds) ∧ d.plain = true ∧ d.showable = true ∧ d.depth ≤ 50 ∧ d.shown.length ≤ sizeLine ∧ Q (.str d.shown) H))
def dRep : D → Option Rs
  | .int i => if i.natAbs.log2 < 1920 then some (.dat (.str (toString i))) else none
  | .list ds => let d : D := .list ds; if d.plain && d.showable && decide (d.depth ≤ 50) && decide (d.shown.length ≤ sizeLine) then some (.dat (.str d.shown)) else none
  | .tuple ds => let d : D := .tuple ds; if d.plain && d.showable && decide (d.depth ≤ 50) && decide (d.shown.length ≤ sizeLine) then some (.dat (.str d.shown)) else none
  | _ => none
theorem o1_rep : Op1 X.K (fun v => rRepD X.K [v]) dRep := by
  intro Hf H d x res Q e b er q
  cases d with
  | int i =>
    simp only [dRep] at er
    split at er
    · cases er
      exact ⟨x, Hf, _, rfl, e, b, .inl ⟨i, rfl, by assumption, q _ _ (.old (by simp only [Rp]))⟩⟩
    · cases er
  | list ds =>
    simp only [dRep] at er
    split at er
    · rename_i h
      cases er
      (simp only [Bool.and_eq_true, decide_eq_true_eq] at h)
      exact ⟨x, Hf, _, rfl, e, b, .inr ⟨⟨ds, .inl rfl⟩, h.1.1.1, h.1.1.2, h.1.2, h.2, q _ _ (.old (by simp only [Rp]))⟩⟩
    · cases er
  | tuple ds =>
    simp only [dRep] at er
    split at er
    · rename_i h
      cases er
      (simp only [Bool.and_eq_true, decide_eq_true_eq] at h)
      exact ⟨x, Hf, _, rfl, e, b, .inr ⟨⟨ds, .inr rfl⟩, h.1.1.1, h.1.1.2, h.1.2, h.2, q _ _ (.old (by simp only [Rp]))⟩⟩
    · cases er
  | _ => cases er
theorem call_repD (hu : X.A.units + 64 < cLine) (hgd : X.A.guards = some []) : CallR X (.builtin "repr") (rRepD X.K) := by
  (intro pins s σ H xs us Q I r h)
  obtain ⟨v, Hf, d, rfl, e, b, h⟩ := h
  (obtain ⟨u, rfl, rx⟩ := vals1 r)
  rcases h with ⟨i, rfl, hz, q⟩ | ⟨hd, h1, h2, h3, h4, q⟩
  · obtain rfl := brp_int b
    obtain ⟨t, rfl⟩ := rx
    (exact PySem.P.repr_of_int hz ⟨.str _, H, I.tok _, ⟨_, rfl⟩, q⟩)
  · obtain ⟨as, r1⟩ := reads_b I e b rx h1
    have : ∃ a, u = .ref a := by
      obtain ⟨ds, rfl | rfl⟩ := hd
      · obtain ⟨a, vs, rfl, _⟩ := brp_list e b
        exact ⟨a, rx⟩
      · obtain ⟨a, vs, rfl, _⟩ := brp_tup e b
        exact ⟨a, rx⟩
    obtain ⟨a, rfl⟩ := this
    exact repr_of_reads' r1 h2 (fun z => by rw [plain_hd d h1] at z; cases z) hgd (by omega) (fun _ _ z => z) (fun h' u' tk k => ⟨.str _, H, I.kept (t' := tk) k, ⟨_, rfl⟩, q⟩) h4
end
end Pu
/-! Pu12: zip of lists and tuples in any mixture. -/
namespace Pu
open PySem PySem.Spec PyProof.Rows L2
def SqX (k : Bool) (K : PySem.W.Frag) (H : Hp) (a : Addr) (xs : List V) : Prop := if k = true then SqL K H a xs else SqT K H a xs
def IterX (k : Bool) (h : Heap) (i a : Addr) (n : Nat) : Prop := if k = true then h.IsListIter i a n else h.IsTupleIter i a n
def SeqX (k : Bool) (h : Heap) (a : Addr) (its : Array Value) : Prop := if k = true then h.IsList a its else h.IsTuple a its
def beginO (k : Bool) (a : Addr) : Obj := { cls := .type (if k = true then "list_iterator" else "tuple_iterator"), data := .fields #[.ref a, .int 0 0] }
section
variable {prog
        : Program} {w : World} {A : Around}
theorem drawsX (k : Bool) (hh : A.handled = none) (it l : Addr) (hne : l ≠ it) (items : Array Value) : Draws prog w A it [it, l] items.size (fun i v => items[i]? = some v) (fun i h => IterX k h it l i ∧ SeqX k h l items) := by
  cases k with
  | true => exact Draws.list hh it l hne items
  | false => exact Draws.tuple hh it l hne items
theorem beginsX (k : Bool) (l : Addr) (items : Array Value) : Begins (.ref l) (beginO k l) fun h => SeqX k h l items := by
  cases k with
  | true => exact begins_list l items
  | false => exact begins_tuple l items
theorem IterX.new (k : Bool) {h : Heap} {i a : Addr} (e : h.get? i = some (beginO k a)) : IterX k h i a 0 := by
  cases k with
  | true => exact ⟨_, e, rfl, rfl⟩
  | false => exact ⟨_, e, rfl, rfl⟩
theorem IterX.obj {k : Bool} {h : Heap} {i a : Addr} {n : Nat} (x : IterX k h i a n) : ∃ o, h.get? i = some o ∧ ∀ v, o.data ≠ .cell v := by
  cases k with
  | true => obtain ⟨o, e, _, d⟩ := x; exact ⟨o, e, fun v q => by rw [d] at q; cases q⟩
  | false => obtain ⟨o, e, _, d⟩ := x; exact ⟨o, e, fun v q => by rw [d] at q; cases q⟩
theorem IterX.move {k : Bool} {h h' : Heap} {i a : Addr} {n : Nat} (x : IterX k h i a n) (kp : ∀ o, h.get? i = some o → h'.get? i = some o) : IterX k h' i a n := by
  cases k with
  | true => exact x.at kp
  | false => exact x.at kp
end
section
variable {X : Cx} {pins : List (Addr × Obj)} {σ : L2.St} {H : Hp} {s : Shared} {a : Addr} {xs : List V}
theorem SqX.conc {k : Bool} (I : Inv X pins σ H s) (h : SqX k X.K H a xs) : ∃ its : List Value, Vals xs its ∧ SeqX k s.heap a its.toArray ∧ a < s.heap.objs.size := by
  cases k with
  | true =>
    obtain ⟨its, rv, p, _⟩ := I.list h
    exact ⟨its, rv, p.isList, p.lt⟩
  | false =>
    obtain ⟨its, rv, p, _⟩ := I.tuple h
    obtain ⟨o, e, _⟩ := id p
    exact ⟨its, rv, p, Heap.lt_size e⟩
theorem SqX.same {k : Bool} {ys : List V} (I : Inv X pins σ H s) (h : SqX k X.K H a xs) (h' : SqX k X.K H a ys) : xs = ys := by
  cases k with
  | true => exact I.list_inj h h'
  | false => exact I.tuple_inj h h'
end
def ItzX (K : PySem.W.Frag) (k1 k2 : Bool) (a b : Addr) : It where
  go i H := ∃ xs ys x y, SqX k1 K H a xs ∧ SqX k2 K H b ys ∧ xs[i]? = some x ∧ ys[i]? = some y
  yld i H v H' := ∃ T x y, v = .ref T ∧ H T = none ∧ H' = upd H T (.tup [x, y]) ∧ (∀ xs, SqX k1 K H a xs → xs[i]? = some x) ∧ ∀ ys, SqX k2 K H b ys → ys[i]? = some y
  stop i H := ∃ xs ys : List V, SqX k1 K H a xs ∧ SqX k2 K H b ys ∧ i ≤ xs.length ∧ i ≤ ys.length ∧ (i = xs.length ∨ i = ys.length)
def ZSt (k1 k2 : Bool) (a b z TI TO i1 i2 : Addr) (i : Nat) (h : Heap) : Prop := IsZip h z TI TO .none ∧ IsPair h TI (.ref i1) (.ref i2) ∧ (∃ x y, IsPair h TO x y) ∧ IterX k1 h i1 a i ∧ IterX k2 h i2 b i
theorem zsep {z TI TO i1 i2 l1 l2 : Addr} (D : ZipApart z TI TO i1 i2 l1 l2) : ZipSep2 z TI TO i1 i2 [i1, l1] [i2, l2] where
  TIz := D.TIz
  TOz := D.TOz
  TITO := D.TITO
  TIi1 := D.TIi1
  mem1 := by simp
  zf1 := by simp [D.i1z.symm, D.l1z.symm]
  Tf1 := by simp [D.TOi1, D.l1TO.symm]
  TIi2 := D.TIi2
  mem2 := by simp
  zf2 := by simp [D.i2z.symm, D.l2z.symm]
  Tf2 := by simp [D.TOi2, D.l2TO.symm]
  sep1_2 := by simp [D.i12, D.l2i1.symm]
  sep2_1 := by simp [D.i12.symm, D.l1i2.symm]
theorem five {α : Type} {c a b d e f : α} (h : c ∈ [a, b, d, e, f]) : c = a ∨ c = b ∨ c = d ∨ c = e ∨ c = f := by simpa using h
theorem turnX {P : Program} {w : World} {K : PySem.W.Frag} {elts : List Expr} {kk : Nat} {tpos : Pos} {k1 k2 : Bool} {a b z TI TO i1 i2 : Addr} (D : ZipApart z TI TO i1 i2 a b) :
    Turn P w K (.Tuple elts kk tpos) (ItzX K k1 k2 a b) [z, TI, TO, i1, i2] z (ZSt k1 k2 a b z TI TO i1 i2) where
  mem := by simp
  obj := fun i h st c hc => by
    (obtain ⟨hz, hTI, ⟨x, y, hTO⟩, h1, h2⟩ := st)
    rcases five hc with q | q | q | q | q <;> subst q
    · exact ⟨_, hz, nofun⟩
    · exact ⟨_, hTI, nofun⟩
    · exact ⟨_, hTO, nofun⟩
    · exact h1.obj
    · exact h2.obj
  keep := fun i h h' st k => by
    (obtain ⟨hz, hTI, ⟨x, y, hTO⟩, h1, h2⟩ := st)
    exact ⟨k z (by simp) _ hz, k TI (by simp) _ hTI, ⟨x, y, k TO (by simp) _ hTO⟩, h1.move (k i1 (by simp)), h2.move (k i2 (by simp))⟩
  item := fun X hP hw hK hc i pins s σ H E I hf st hg => by
    subst hP hw hK
    (obtain ⟨hz, hTI, ⟨x0, y0, hTO⟩, h1, h2⟩ := st)
    (obtain ⟨xs, ys, x, y, hqx, hqy, hx, hy⟩ := hg)
    obtain ⟨its, rv, p, _⟩ := hqx.conc I
    obtain ⟨its2, rv2, p2, _⟩ := hqy.conc I
    have l1 := rv.length
    have l2 := rv2.length
    have b1 := (List.getElem?_eq_some_iff.mp hx).1
    have b2 := (List.getElem?_eq_some_iff.mp hy).1
    have hh : X.A.in1.handled = none := I.ok.hd hc
    refine wpAny_pyNext_zipD2_item (zsep D) (drawsX k1 hh i1 a D.l1i1 its.toArray) (drawsX k2 hh i2 b D.l2i2 its2.toArray) hz hTI hTO ⟨h1, p⟩ ⟨h2, p2⟩ (by rw [List.size_toArray]; omega) (by rw [List.size_toArray]; omega)
      fun u u2 h' tk hu hu2 z' TO' st1 st2 hT hsz hk => ⟨_, rfl, ?_⟩
    refine wpAny_letOwnedTupleGo_zip (s := { s with heap := h', toks := tk }) z' fun h'' z'' sb => ?_
    obtain ⟨v1, e1, ru⟩ := rv.get hx
    obtain ⟨v2, e2, ru2⟩ := rv2.get hy
    have e1' : its[i]? = some u := by simpa using hu
    have e2' : its2[i]? = some u2 := by simpa using hu2
    rw [e1'] at e1
    rw [e2'] at e2
    cases e1
    cases e2
    have zl := Heap.lt_size hz
    have nz : s.heap.objs.size ≠ z := Nat.ne_of_gt zl
    have far : ∀ c o, c ∉ [z, TI, TO, i1, i2] → s.heap.get? c = some o → h''.get? c = some o := fun c o hb q => by
      have n : c ≠ z ∧ c ≠ TI ∧ c ≠ TO ∧ c ≠ i1 ∧ c ≠ i2 := by simpa using hb
      rw [sb.2 _ n.1]
      exact hk c o n.1 n.2.2.1 n.2.2.2.1 n.2.2.2.2 q
    have T' : h''.get? s.heap.objs.size = some { cls := .type "tuple", data := .seq #[u, u2] } := by rw [sb.2 _ nz]; exact hT
    have J := I.turnedNew (t' := tk) (ob := .tup [x, y]) far hf (Nat.le_refl _) ⟨by show 2 ≤ sizeLine; decide, [u, u2], .cons ru (.cons ru2 .nil), ⟨_, T', rfl, _, rfl⟩⟩
    refine ⟨.ref s.heap.objs.size, _, J, rfl, ⟨_, x, y, rfl, I.hok.fresh (Nat.le_refl _), rfl, fun l hl => by rw [hl.same I hqx]; exact hx, fun l hl => by rw [hl.same I hqy]; exact hy⟩, ⟨z'', ?_, ⟨u, u2, ?_⟩, ?_, ?_⟩, fun c hcm => ?_⟩
    · show h''.get? TI = _
      rw [sb.2 _ D.TIz]; exact hk _ _ D.TIz D.TITO D.TIi1 D.TIi2 hTI
    · show h''.get? TO = _
      rw [sb.2 _ D.TOz]; exact TO'
    · exact st1.1.move fun o q => by rw [sb.2 _ D.i1z]; exact q
    · exact st2.1.move fun o q => by rw [sb.2 _ D.i2z]; exact q
    · have : ∃ o, s.heap.get? c = some o := by
        rcases five hcm with q | q | q | q | q <;> subst q
        · exact ⟨_, hz⟩
        · exact ⟨_, hTI⟩
        · exact ⟨_, hTO⟩
        · obtain ⟨o, e, _⟩ := h1.obj; exact ⟨o, e⟩
        · obtain ⟨o, e, _⟩ := h2.obj; exact ⟨o, e⟩
      obtain ⟨o, e⟩ := this
      rw [upd_ne (Nat.ne_of_lt (Heap.lt_size e))]
      exact (hf c hcm).1
  done := fun X hP hw hK hc i pins s σ H E I hf st hg => by
    subst hP hw hK
    (obtain ⟨hz, hTI, ⟨x0, y0, hTO⟩, h1, h2⟩ := st)
    obtain ⟨xs, ys, hqx, hqy, le1, le2, hend⟩ := hg
    obtain ⟨its, rv, p, _⟩ := hqx.conc I
    obtain ⟨its2, rv2, p2, _⟩ := hqy.conc I
    have l1 := rv.length
    have l2 := rv2.length
    have hh : X.A.in1.handled = none := I.ok.hd hc
    refine wpAny_pyNext_zipD2_end (zsep D) (drawsX k1 hh i1 a D.l1i1 its.toArray) (drawsX k2 hh i2 b D.l2i2 its2.toArray) hz hTI hTO ⟨h1, p⟩ ⟨h2, p2⟩ (by rw [List.size_toArray]; omega) (by rw [List.size_toArray]; omega) (by simp only [List.size_toArray]; omega)
      fun h' tk hk => ⟨rfl, I.turnedL (t' := tk) (ch := [z, TI, TO, i1, i2]) (fun c o hb q => ?_) hf⟩
    have n : c ≠ z ∧ c ≠ TI ∧ c ≠ TO ∧ c ≠ i1 ∧ c ≠ i2 := by simpa using hb
    exact hk c o n.1 n.2.2.1 n.2.2.2.1 n.2.2.2.2 q
  self := fun _ _ _ _ _ st h => wpAny_pyIter_zip st.1 h
def iZipX (K : PySem.W.Frag) (ta : TA) : TI := fun σ H R => ta σ H fun vs H1 => ∃ k1 k2 a b xs ys, vs = [.ref a, .ref b] ∧ SqX k1 K H1 a xs ∧ SqX k2 K H1 b ys ∧ R (ItzX K k1 k2 a b) H1
theorem pi_zipX {X : Cx} {e e2 : Expr} {ta : TA} {p pos tpos : Pos} {elts : List Expr} {kk : Nat} (hg : Gl X "zip") (hm : X.mg "zip" = none) (ha : PA X [e, e2] ta)
    (hs : starEach
            [e, e2] X.env = (false, eval e X.env) :: starEach [e2] X.env := by rfl) (hpl : (backTo pos (starEach [e2] X.env)).any (·.1) = false := by rfl) :
    PI X (.Tuple elts kk tpos) (.Call (.Name "zip" p) [e, e2] [] pos) (iZipX X.K ta) := ⟨fun pins s σ H R I h => by
  refine Call_ (ld_blt I hg hm PyProof.Rows.boot_zip (PyProof.Rows.callWith_type1 (thn (ha.run pos pins s σ H _ I h) fun us s1 hz => ?_) hs hpl))
  obtain ⟨vs, H1, I1, r1, k1, k2, a, b, xs, ys, rfl, hqx, hqy, q⟩ := hz
  have e' : us = [.ref a, .ref b] := by
    cases r1 with
    | cons r rr => cases rr with
      | cons r' rr => cases rr; cases r; cases r'; rfl
  subst e'
  obtain ⟨its, rv, p1, la⟩ := hqx.conc I1
  obtain ⟨its2, rv2, p2, lb⟩ := hqy.conc I1
  refine zip_begins2 (beginsX k1 a its.toArray) (beginsX k2 b its2.toArray) p1 p2 fun h' hz hTI hTO h1 h2 hsz hk => wpAny_pyIter_zip hz ?_
  refine ⟨_, _, _, _, H1, rfl, I1.kept (t' := s1.toks) hk, turnX (PySem.W.ktu_apart s1.heap.objs.size a b la lb), ⟨hz, hTI, ⟨_, _, hTO⟩, .new k1 h1, .new k2 h2⟩, fun c hcm => ?_, q⟩
  have hle : (s1.heap.objs.size) ≤ c := by
    rcases five hcm with z | z | z | z | z <;> subst z
    · exact Nat.le_add_right _ _
    · exact Nat.le_add_right _ _
    · exact Nat.le_add_right _ _
    · exact Nat.le_refl _
    · exact Nat.le_add_right _ _
  exact I1.fpOk hle (I1.hok.fresh hle)⟩
/-- the items of a list or of a tuple -/
def seqD : D → Option (List D)
  | .list ds => some ds
  | .tuple ds => some ds
  | _ => none
def pairsD : List Ar → Option (List D)
  | [.dat d1, .dat d2] => (seqD d1).bind fun xs => (seqD d2).map fun ys => List.zipWith (fun x y => .tuple [x, y]) xs ys
  | _ => none
theorem pairsD_inv {as : List Ar} {ds : List D} (h : pairsD as = some ds) : ∃ d1 d2 xs ys, as = [.dat d1, .dat d2] ∧ seqD d1 = some xs ∧ seqD d2 = some ys ∧ ds = List.zipWith (fun x y => .tuple [x, y]) xs ys := by
  unfold pairsD at h
  split at h
  · obtain ⟨xs, e1, h⟩ := Option.bind_eq_some_iff.mp h
    obtain ⟨ys, e2, h⟩ := Option.map_eq_some_iff.mp h
    exact ⟨_, _, xs, ys, rfl, e1, e2, h.symm⟩
  · cases h
def mZip (m1 m2 : M Rv) : M (List D) := M.bind (mArgs [m1, m2]) fun as => M.lift (pairsD as)
theorem seqD_rp {K : PySem.W.Frag} {Hf : Hp} {d : D} {xs : List D} {v : V} (e : seqD d = some xs) (h : Rp K Hf d v) : ∃ k a vs, v = .ref a ∧ (∀ H, Sub Hf H → SqX k K H a vs) ∧ RpL K Hf xs vs := by
  cases d with
  | list ds =>
    cases e
    simp only [Rp] at h
    obtain ⟨a, vs, rfl, h1, h2⟩ := h
    exact ⟨true, a, vs, rfl, fun H s => by unfold SqX; exact Sub.sqL s h1, h2⟩
  | tuple ds =>
    cases e
    simp only [Rp] at h
    obtain ⟨a, vs, rfl, h1, h2⟩ := h
    exact ⟨false, a, vs, rfl, fun H s => by unfold SqX; exact Sub.sqT s h1, h2⟩
  | _ => cases e
theorem itok_zip {K : PySem.W.Frag} {Hf : Hp} {k1 k2 : Bool} {a b : Addr} {vs ws : List V} {xs ys : List D} (h1 : ∀ H, Sub Hf H → SqX k1 K H a vs) (h2 : RpL K Hf xs vs) (h3 : ∀ H, Sub Hf H → SqX k2 K H b ws) (h4 : RpL K Hf ys ws) :
    ItOk K (ItzX K k1 k2 a b) Hf (List.zipWith (fun x y => .tuple [x, y]) xs ys) where
  go := fun i H s hi => by
    rw [List.length_zipWith] at hi
    obtain ⟨x, e, _⟩ := h2.get (List.getElem?_eq_getElem (show i < xs.length by omega))
    obtain ⟨y, e', _⟩ := h4.get (List.getElem?_eq_getElem (show i < ys.length by omega))
    exact ⟨vs, ws, x, y, h1 H s, h3 H s, e, e'⟩
  yld := fun i H x H' d s e y => by
    obtain ⟨T, u, v, rfl, hT, rfl, q1, q2⟩ := y
    rw [List.getElem?_zipWith] at e
    cases e1 : xs[i]? with
    | none => rw [e1] at e; cases e
    | some dx =>
      cases e2 : ys[i]? with
      | none => rw [e1, e2] at e; cases e
      | some dy =>
        rw [e1, e2] at e
        cases e
        obtain ⟨u', z1, r1⟩ := h2.get e1
        obtain ⟨v', z2, r2⟩ := h4.get e2
        have z3 := q1 vs (h1 H s)
        have z4 := q2 ws (h3 H s)
        rw [z1] at z3
        rw [z2] at z4
        cases z3
        cases z4
        exact .inr ⟨T, _, _, rfl, hT, rfl, rfl, RpL.cons r1 (RpL.cons r2 RpL.nil)⟩
  stop := fun i H s hi => by
    have l1 := h2.length
    have l2 := h4.length
    rw [List.length_zipWith] at hi
    exact ⟨vs, ws, h1 H s, h3 H s, by omega, by omega, by omega⟩
section
variable {X : Cx} {E : WX}
theorem ei_zip {e e2 : Expr} {m1 m2 : M Rv} {p pos tpos : Pos} {elts : List Expr} {kk : Nat} (hg : Gl X "zip") (hm : X.mg "zip" = none) (ha : EV X E e m1) (hb : EV X E e2 m2)
    (hs : starEach [e, e2] X.env = (false, eval e X.env) :: starEach [e2] X.env := by rfl) (hs2 : starEach [e2] X.env = (false, eval e2 X.env) :: starEach [] X.env := by rfl) (hpl : (backTo pos (starEach [e2] X.env)).any (·.1) = false := by rfl) :
    EI X E (.Tuple elts kk tpos) (.Call (.Name "zip" p) [e, e2] [] pos) (mZip m1 m2) :=
  PI.conv (pi_zipX hg hm (ea_cons ha (ea_cons hb ea_nil hs2) hs) hs hpl) fun σ H R q => by
    obtain ⟨ba, O, Hf, s, R0, F⟩ := q
    refine ⟨ba, O, Hf, s, R0, F.bind.imp (fun as s1 F1 vs H1 Hf1 R1 e1 ok1 => ?_) fun x s' q => q⟩
    obtain ⟨ds, ed, F2⟩ := F1.lift
    obtain ⟨d1, d2, xs, ys, rfl, e2, e3, rfl⟩ := pairsD_inv ed
    obtain ⟨v, r, rfl, r1, v', r', rfl, r2, rfl⟩ := ok1
    obtain ⟨k1, a, us, rfl, q1, p1⟩ := seqD_rp e2 r1
    obtain ⟨k2, b, ws, rfl, q2, p2⟩ := seqD_rp e3 r2
    exact ⟨k1, k2, a, b, us, ws, rfl, q1 H1 R1.reg.sub, q2 H1 R1.reg.sub, F2 _ H1 Hf1 R1 e1 (itok_zip q1 p1 q2 p2)⟩
end
end Pu
/-! Pu13: sorted; len(set(..)). -/
namespace Pu
open PySem PySem.Spec PyProof.Rows L2
/-! ### sorted -/
theorem SeqX.obj {k : Bool} {h : Heap} {a : Addr} {its : Array Value} (x : SeqX k h a its) : ∃ T o n, (T = "list" ∨ T = "tuple") ∧ h.get? a = some o ∧ o.cls = .type T ∧ o.data = .seq its n := by
  cases k with
  | true => obtain ⟨o, e, c, n, d⟩ := x; exact ⟨"list", o, n, .inl rfl, e, c, d⟩
  | false => obtain ⟨o, e, c, n, d⟩ := x; exact ⟨"tuple", o, n, .inr rfl, e, c, d⟩
def encD (p : D × V) : D := p.1
theorem sorted_any {prog : Program} {w : World} {A : Around} {E : Value → Shared → Prop} {s : Shared} {k : Bool} {l : Addr} {us : List Value} {bs : List (D × V)} {Q : Value → Shared → Prop} (hl : SeqX k s.heap l us.toArray)
    (e : PySem.W.EachIs (fun u (p : D × V) => RelV p.2 u) us bs) (er : PySem.W.EachIs (fun u p => ∃ as, Reads s.heap u (encD p) as) us bs) (hal : PySem.W.AllAlike (bs.map encD)) (hk : PySem.W.Sortable (bs.map encD)) (hL : us.length ≤ sizeLine) (hu : ∀ d, d ∈ bs.map encD → A.units + 2 + d.depth < cLine)
    (h : ∀ (h1 h' : Heap) (c : Nat) (out : List Value), (∀ b o, s.heap.get? b = some o → h1.get? b = some o) → (∀ b o, h1.get? b = some o → h'.get? b = some o) → h'.get? h1.objs.size = some (seqObj "list" (List.toArray out) c) → PySem.W.EachIs (fun u (p : D × V) => RelV p.2 u) out (bs.mergeSort (PySem.W.dataLe false encD)) → Q (.ref h1.objs.size) { s with heap := h' }) :
    wpAny (model
            prog w) A (call (.builtin "sorted") [.ref l]) Q E s := by
  obtain ⟨T, o, n, hT, ho, hc, hd⟩ := hl.obj
  refine call_function_entry_kw kind_sorted plain_sorted entry_sorted (args_sorted1 _) ?_
  unfold Builtin.«sorted»
  (refine wpAny_bind (m := checkCount "sorted" 1 1 _) (wpAny_pure ?_))
  refine wpAny_bind (wpAny_collect_seq l hT ho hc hd (fun h1 k1 => ?_) (by rw [List.size_toArray]; exact hL))
  (refine wpAny_bind (wpAny_newList ?_ hL))
  have at1 : (h1.push (seqObj "list" us.toArray 0)).get? h1.objs.size = some (seqObj "list" us.toArray 0) := Heap.get?_push_size _ rfl
  have k2 : ∀ b o, h1.get? b = some o → (h1.push (seqObj "list" us.toArray 0)).get? b = some o := fun b o q => Heap.get?_push_of_some _ q
  refine wpAny_bind (wpAny_holding (wpAny_call_entry_kw slot_list_sort ⟨_, at1, rfl⟩ entry_list_sort ?_ (args_list_sort _)))
  have er' : PySem.W.EachIs (fun u p => ∃ as, Reads (PySem.W.sortingHeap (h1.push (seqObj "list" us.toArray 0)) h1.objs.size us) u (encD p) as) us bs := er.mono fun _ _ ⟨as, r⟩ => ⟨as, PyProof.Rows.Reads.keeps (fun b o q => PySem.W.sortingHeap_old (Nat.ne_of_lt (Heap.lt_size (k1 b o q))) (k2 b o (k1 b o q))) r⟩
  refine PySem.W.list_sort_vals (s := { s with heap := h1.push (seqObj "list" us.toArray 0) }) at1 (PySem.W.SortsAt.data (s := { s with heap := PySem.W.sortingHeap (h1.push (seqObj "list" us.toArray 0)) h1.objs.size us }) (PySem.W.each_map (R := fun v d => ∃ as, Reads _ v d as) encD er') hal hk hu) hL ?_
  refine ⟨_, rfl, wpAny_pure ⟨_, rfl, ?_⟩⟩
  obtain ⟨c, hat⟩ := sortedHeap_at (h := h1.push (seqObj "list" us.toArray 0)) (a := h1.objs.size) (vs := us) (out := (PySem.W.sortVals (PySem.W.dataKind _ (bs.map encD)) false us us).toArray) at1
  refine h h1 _ c _ k1 (fun b o q => ?_) hat (PySem.W.sortVals_data false e er' hal)
  rw [sortedHeap_old (Nat.ne_of_lt (Heap.lt_size q)) (Heap.lt_size (k2 b o q))]
  exact k2 b o q
def rpP (K : PySem.W.Frag) (H : Hp) (p : D × V) : Prop := Rp K H p.1 p.2
theorem RpL.zip {K : PySem.W.Frag} {H : Hp} : ∀ {ds : List D} {vs : List V}, RpL K H ds vs → ∃ bs : List (D × V), bs.map encD = ds ∧ bs.map (·.2) = vs ∧ ∀ p ∈ bs, rpP K H p
  | [], vs, h => ⟨[], rfl, by rw [h.nil_inv]; rfl, nofun⟩
  | d :: ds, vs, h => by
    obtain ⟨v, r, rfl, h1, h2⟩ := h.cons_inv
    obtain ⟨bs, e1, e2, e3⟩ := RpL.zip h2
    refine ⟨(d, v) :: bs, by rw [List.map_cons, e1]; rfl, by rw [List.map_cons, e2], fun p hp => ?_⟩
    (rcases List.mem_cons.mp hp with rfl | hp)
    · exact h1
    · exact e3 p hp
theorem RpL.unzip {K : PySem.W.Frag} {H : Hp} : ∀ {bs : List (D × V)}, (∀ p ∈ bs, rpP K H p) → RpL K H (bs.map encD) (bs.map (·.2))
  | [], _ => RpL.nil
  | p :: bs, h => RpL.cons (h p (List.mem_cons_self ..)) (RpL.unzip fun q hq => h q (List.mem_cons_of_mem _ hq))
theorem each_vals : ∀ {bs : List (D × V)} {us : List Value}, Vals (bs.map (·.2)) us → PySem.W.EachIs (fun u (p : D × V) => RelV p.2 u) us bs
  | [], _, .nil => .nil
  | p :: bs, _, .cons r t => .cons r (each_vals t)
theorem vals_each : ∀ {bs : List (D × V)} {us : List Value}, PySem.W.EachIs (fun u (p : D × V) => RelV p.2 u) us bs → Vals (bs.map (·.2)) us
  | _, _, .nil => .nil
  | _, _, .cons r t => .cons r (vals_each t)
def sortB (ds : List D) : Bool := ds.all (fun a => ds.all fun b => PySem.W.alike a b) && (ds.all (fun d => match d with | .tuple (_ :: _) => true | _ => false) || ds.all (fun d => match d with | .none => false | .tuple _ => false | _ => true)) && ds.all okD
def sortD (ds : List D) : List D := ds.mergeSort (PySem.W.dataLe false id)
theorem sortB_inv {ds : List D} (h : sortB ds = true) : PySem.W.AllAlike ds ∧ PySem.W.Sortable ds ∧ ∀ d ∈ ds, d.plain = true ∧ d.depth ≤ 50 := by
  unfold sortB at h
  simp only [Bool.and_eq_true, List.all_eq_true, Bool.or_eq_true] at h
  obtain ⟨⟨h1, h2⟩, h3⟩ := h
  refine ⟨fun a ha b hb => h1 a ha b hb, ?_, fun d hd => ?_⟩
  · rcases h2 with h2 | h2
    · refine .inl fun d hd => ?_
      have q := h2 d hd
      split at q
      · exact ⟨_, _, rfl⟩
      · cases q
    · refine .inr fun d hd => ?_
      have q := h2 d hd
      constructor
      · rintro rfl; cases q
      · rintro xs rfl; cases q
  · have q := h3 d hd
    simpa only [okD, Bool.and_eq_true, decide_eq_true_eq] using q
def dSorted (d : D) : Option Rs := (seqD d).bind fun ds => if sortB ds then some (.fresh (sortD ds)) else none
def rSortedD (K : PySem.W.Frag) : List V → Hp → VK → Prop := fun xs H Q => ∃ k a vs Hf ds, xs = [.ref a] ∧ SqX k K H a vs ∧ Sub Hf H ∧ RpL K Hf ds vs ∧ sortB ds = true ∧ ∀ p ws, H p = none → RpL K Hf (sortD ds) ws → Q (.ref p) (upd H p (.lst ws))
section
variable {X : Cx}
theorem brp_seq {K : PySem.W.Frag} {Hf H : Hp} {d : D} {v : V} {ds : List D} (e : Sub Hf H) (h : BRp K Hf H d v) (q : seqD d = some ds) : ∃ k a vs, v = .ref a ∧ SqX k K H a vs ∧ RpL K Hf ds vs := by
  cases d with
  | list es =>
    cases q
    obtain ⟨a, vs, rfl, h1, h2⟩ := brp_list e h
    exact ⟨true, a, vs, rfl, by unfold SqX; exact h1, h2⟩
  | tuple es =>
    cases q
    obtain ⟨a, vs, rfl, h1, h2⟩ := brp_tup e h
    exact ⟨false, a, vs, rfl, by unfold SqX; exact h1, h2⟩
  | _ => cases q
theorem o1_sorted : Op1 X.K (fun v => rSortedD X.K [v]) dSorted := by
  intro Hf H d x res Q e b er q
  obtain ⟨ds, e1, er⟩ := Option.bind_eq_some_iff.mp er
  split at er
  · cases er
    obtain ⟨k, a, vs, rfl, h1, h2⟩ := brp_seq e b e1
    exact ⟨k, a, vs, Hf, ds, rfl, h1, e, h2, by assumption, fun p ws hp hw => q _ _ (.lst hp hw)⟩
  · cases er
theorem call_sortedD (hu : X.A.units + 64 < cLine) : CallR X (.builtin "sorted") (rSortedD X.K) := by
  (intro pins s σ H xs us Q I r h)
  obtain ⟨k, a, vs, Hf, ds, rfl, hq, e, hr, hs, q⟩ := h
  (obtain ⟨u, rfl, rx⟩ := vals1 r)
  cases rx
  obtain ⟨its, rv, p, _⟩ := hq.conc I
  obtain ⟨bs, e1, e2, e3⟩ := hr.zip
  obtain ⟨s1, s2, s3⟩ := sortB_inv hs
  subst e1
  have hz : (vs.length) ≤ sizeLine := by
    cases k with
    | true => obtain ⟨_, _, _, z⟩ := I.list hq; exact z
    | false => obtain ⟨_, _, _, z⟩ := I.tuple hq; exact z
  have rv' : Vals (bs.map (·.2)) its := by rw [e2]; exact rv
  have er : ∀ {bs : List (D × V)} {its : List Value}, Vals (bs.map (·.2)) its → (∀ p ∈ bs, rpP X.K Hf p) → (∀ d ∈ bs.map encD, d.plain = true ∧ d.depth ≤ 50) → PySem.W.EachIs (fun u p => ∃ as, Reads s.heap u (encD p) as) its bs := by
    intro bs
    induction bs with
    | nil => intro its r _ _; cases r; exact .nil
    | cons p bs ih =>
      intro its r h1 h2
      cases r with
      | cons r t =>
        exact .cons (reads_of I e p.1 p.2 _ (h1 p (List.mem_cons_self ..)) r (h2 p.1 (List.mem_cons_self ..)).1) (ih t (fun q hq => h1 q (List.mem_cons_of_mem _ hq)) fun d hd => h2 d (List.mem_cons_of_mem _ hd))
  refine sorted_any p (each_vals rv') (er rv' e3 s3) s1 s2 (by rw [← rv.length]; exact hz) (fun d hd => by have := (s3 d hd).2; omega) fun h1 h' c out k1 k2 hat ho => ?_
  have I1 : Inv X pins σ H { s with heap := h1 } := I.kept (t' := s.toks) k1
  have rs : RpL X.K Hf (sortD (bs.map encD)) ((bs.mergeSort (PySem.W.dataLe false encD)).map (·.2)) := by
    have : sortD (bs.map encD) = (bs.mergeSort (PySem.W.dataLe false encD)).map encD := by
      unfold sortD
      exact (PySem.W.sort_maps encD fun a _ b _ => rfl).symm
    rw [this]
    exact RpL.unzip fun p hp => e3 p ((List.mergeSort_perm _ _).mem_iff.mp hp)
  have hl2 : ((bs.mergeSort (PySem.W.dataLe false encD)).map (·.2)).length ≤ sizeLine := by
    rw [List.length_map, List.length_mergeSort]
    rw [← e2, List.length_map] at hz
    exact hz
  have I2 := I1.laid (t' := s.toks) (h' := h') (o := .lst ((bs.mergeSort (PySem.W.dataLe false encD)).map (·.2))) k2 (Nat.le_refl _) ⟨hl2, out, c, vals_each ho, hat⟩
  exact ⟨.ref h1.objs.size, _, I2, rfl, q _ _ (I1.hok.fresh (Nat.le_refl _)) rs⟩
end
/-! ### len(set(xs)), xs a tuple or a list of whole numbers -/
def intsD : List D → Option (List Int)
  | [] => some []
  | .int i :: r => (intsD r).map (i :: ·)
  | _ :: _ => none
def onceI : List Int → List Int
  | [] => []
  | i :: r => if i ∈ r then onceI r else i :: onceI r
theorem onceI_mem : ∀ (ns : List Int) (i : Int), i ∈ onceI ns ↔ i ∈ ns
  | [], i => Iff.rfl
  | n :: ns, i => by
    unfold onceI
    split
    · rename_i h
      rw [onceI_mem ns i, List.mem_cons]
      exact ⟨.inr, fun z => z.elim (fun z => z ▸ h) id⟩
    · rw [List.mem_cons, List.mem_cons, onceI_mem ns i]
theorem onceI_nodup : ∀ ns : List Int, (onceI ns).Nodup
  | [] => List.nodup_nil
  | n :: ns => by
    unfold onceI
    split
    · exact onceI_nodup ns
    · rename_i h
      exact List.nodup_cons.mpr ⟨fun z => h ((onceI_mem ns n).mp z), onceI_nodup ns⟩
theorem nodup_le {α : Type} [DecidableEq α] : ∀ {a b : List α}, a.Nodup → (∀ x ∈ a, x ∈ b) → a.length ≤ b.length
  | [], b, _, _ => Nat.zero_le b.length
  | x :: a, b, h, s => by
    have hx := s x (List.mem_cons_self ..)
    (have h' := List.nodup_cons.mp h)
    have ih := nodup_le (b := b.erase x) h'.2 fun y hy => by
      have ne : y ≠ x := fun e => h'.1 (e ▸ hy)
      exact (List.mem_erase_of_ne ne).mpr (s y (List.mem_cons_of_mem _ hy))
    rw [List.length_erase_of_mem hx] at ih
    have : 0 < b.length := List.length_pos_of_mem hx
    rw [List.length_cons]
    omega
def dLenSet (d : D) : Option Rs := match d with
  | .tuple ds => (intsD ds).bind fun ns => if ns.length ≤ 4000 then some (.dat (.int (onceI ns).length)) else none
  | _ => none
theorem ints_rp {K : PySem.W.Frag} {Hf : Hp} : ∀ {ds : List D} {vs : List V} {ns : List Int}, intsD ds = some ns → RpL K Hf ds vs → vs = ns.map V.int
  | [], vs, ns, e, h => by
    cases e
    rw [h.nil_inv]; rfl
  | d :: ds, vs, ns, e, h => by
    obtain ⟨v, r, rfl, h1, h2⟩ := h.cons_inv
    cases d with
    | int i =>
      obtain ⟨ms, e1, rfl⟩ := Option.map_eq_some_iff.mp e
      rw [ints_rp e1 h2, List.map_cons, rp_int h1]
    | _ => cases e
section
variable {X : Cx} {E : WX}
def tLenSetT (K : PySem.W.Frag) (ta : TE) : TE := fun σ H Q => ta σ H fun x H1 => ∃ (l : Addr) (ns : List Int), x = .ref l ∧ SqT K H1 l (ns.map V.int) ∧ ns.length ≤ 4000 ∧ Q (.int ((onceI ns).length : Nat)) H1
theorem pe_lenSetT {a : Expr} {ta : TE} {p p2 q pos : Pos} (hg : Gl X "len") (hm : X.mg "len" = none) (hg2 : Gl X "set") (hm2 : X.mg "set" = none) (ha : PE X a ta) (hc : X.calm = true)
    (na : starEach [a] X.env = (false, eval a X.env) :: starEach [] X.env := by rfl) : PE X (.Call (.Name "len" p) [.Call (.Name "set" p2) [a] [] q] [] pos) (tLenSetT X.K ta) := ⟨fun pins s σ H Q I h => by
  refine Call_ (ld_blt I hg hm boot_len (PyProof.Rows.callWith_builtin1 (PyProof.Rows.args_cons ?_ rfl) rfl rfl))
  refine Call_ (ld_blt I hg2 hm2 boot_set (PyProof.Rows.callWith_type1 (PyProof.Rows.args_cons (thn (ha.run pins s σ H _ I h) fun v s1 hz => PyProof.Rows.args_nil ?_) na) na rfl))
  obtain ⟨x, H1, I1, r1, l, ns, rfl, hq, hl, q1⟩ := hz
  cases r1
  obtain ⟨its, rv, pl, _⟩ := I1.tuple hq
  have hb : ns.length + 1 < scanBound := by unfold scanBound; omega
  refine call_set_tupI ns (I1.ok.hd hc) pl (by simpa using RZ.intsAre_vals rv) hb fun h' tk c hS hcn hk => PyProof.Rows.args_nil ?_
  obtain ⟨o, es, ep, t, ho, hex, hd, hge, hnd, hmem, hsz, hf, hn, _⟩ := hS
  have hlen : es.size = (onceI ns).length := by
    have e1 := nodup_le hnd (b := onceI ns) fun k hk => (onceI_mem ns k).mpr (by simpa using (hmem k).mpr hk)
    have e2 := nodup_le (onceI_nodup ns) (b := es.toList.map keyOf) fun k hk => (hmem k).mp (by simpa using (onceI_mem ns k).mp hk)
    have e3 : (es.toList.map keyOf).length = es.size := by rw [List.length_map, Array.length_toList]
    omega
  (have I2 : Inv X pins σ H1 { s1 with heap := h', toks := tk } := I1.kept hk)
  exact call_len_set ho hex hd hf (by omega) ⟨.int _, H1, I2.tok _, ⟨_, by rw [hlen]⟩, q1⟩⟩
theorem ev_lenSet {a : Expr} {m : M Rv} {p p2 q pos : Pos} (hg : Gl X "len") (hm : X.mg "len" = none) (hg2 : Gl X "set") (hm2 : X.mg "set" = none) (ha : EV X E a m) (hc : X.calm = true)
    (na : starEach [a] X.env = (false, eval a X.env) :: starEach [] X.env := by rfl) : EV X E (.Call (.Name "len" p) [.Call (.Name "set" p2) [a] [] q] [] pos) (mUn dLenSet m) :=
  PE.conv (pe_lenSetT hg hm hg2 hm2 ha hc na) fun σ H Q q => un_conv (r := fun x H1 Q => ∃ (l : Addr) (ns : List Int), x = .ref l ∧ SqT X.K H1 l (ns.map V.int) ∧ ns.length ≤ 4000 ∧ Q (.int ((onceI ns).length : Nat)) H1) (by
    intro Hf H d x res Q e b er q
    cases d with
    | tuple ds =>
      obtain ⟨ns, e1, er⟩ := Option.bind_eq_some_iff.mp er
      split at er
      · cases er
        obtain ⟨a, vs, rfl, h1, h2⟩ := brp_tup e b
        rw [ints_rp e1 h2] at h1
        exact ⟨a, ns, rfl, h1, by assumption, q _ _ (.old (by simp only [Rp]))⟩
      · cases er
    | _ => cases er) q
end
end Pu
/-! Pu14: an own exception whose __init__ hands its two arguments on to super() and keeps them as fields. -/
namespace Pu
open PySem PySem.Spec PyProof.Rows L2
/-- what the written part says of such a class -/
structure ExcI (P : Program) (K : PySem.W.Frag) (C fI : Addr) (name qual : Str) (params : Arguments) (body : List Stmt) (scope : Scope) : Prop where
  oex : OexC K C
  fnd : PySem.W.findIn K (.ref C) "__init__" = some (some (.ref fI))
  isf : PySem.W.typeIn K (.ref fI) = some (.type "function")
  fn : ∃ oc od osl kV doc pm an cda ct cc, K.lookup fI = some ⟨oc, od, .func (PySem.W.ksFn name qual params body scope .none kV doc pm an (.ref cda) ct cc), osl⟩ ∧ PySem.W.codeIn K (.ref cda) qual = true ∧
    (∃ ccl cdd vs ccs file tf, K.lookup cda = some ⟨ccl, cdd, .fields vs, ccs⟩ ∧ vs[2]? = some (.str file tf) ∧ ((P.main.file : Str) == file) = true) ∧ ∃ cl cld csl, K.lookup cc = some ⟨cl, cld, .cell (some (.ref C)), csl⟩
  opq : PySem.W.nsIn K cStatics "thirdparty.any" = some none
  sup : PySem.W.ks_superIn K C C "__init__" = some (some (.builtin "ValueError.__init__"))
  subB : PySem.W.subIn K (.ref C) (.type "ValueError") = some true
  self : PySem.W.mroIn K C (.ref C) = some true
def superInit (a1 a2 : Str) (p0 p1 p2 p3 p4 p5 p6 : Pos) : Stmt := .Expr (.Call (.Attribute (.Call (.Name "super" p0) [] [] p1) "__init__" p2) [.Name a1 p3, .Name a2 p4] [] p5) p6
def keepArg (a : Str) (p0 p1 p2 p3 : Pos) : Stmt := .Assign [.Attribute (.Name "self" p0) a p1] (.Name a p2) p3
theorem call_mw {P : Program} {w : World} {A : Around} {E : Value → Shared → Prop} {Q : Value → Shared → Prop} {s : Shared} {u x t0 C N : Addr} {rest : List Value} {nm q : Str} {bs bm : List Value} {hdct : Bool} {sn : List Str} {sub : List Value} {ab : Bool} {col : Option Bool} {dd : Option Addr} {k0 k1 k2 k3 k5 : Option Value}
    (hC : s.heap.get? C = some (excClassObj nm q C N bs bm hdct sn sub ab col dd k0 k1 k2 k3 k5 "ValueError.__new__")) (he : s.heap.get? x = some (PySem.W.excObj C t0 none .none)) (hu : s.heap.get? u = some (PySem.W.kxs_mw "ValueError.__init__" x)) (hz : rest.length ≤ sizeLine)
    (h : ∀ h' t1, (∀ b o, b ≠ x → s.heap.get? b = some o → h'.get? b = some o) → h'.get? x = some (PySem.W.excObj C t1 none .none) → Q .none { s with heap := h' }) : wpAny (model P w) A (call (.ref u) rest) Q E s := by
  (obtain ⟨hh, g, d, tk, os⟩ := s)
  (refine wpAny_call (codeAny_of_tree ?_))
  show wpAny _ A.in1 (callAny
          (.ref u) ⟨rest, []⟩) _ _ _
  simp only [callAny]
  refine wpAny_bind (wpAny_load hu (PySem.W.KFB.if_so (by rfl) (wpAny_bind (PySem.W.check_bound_init F.excBase_ValueError.toExcCallFacts hC he rfl (wpAny_bind (wpAny_pure (wpAny_pure ⟨plainId_quiet F.excBase_ValueError.init.plain _, codeAny_builtin F.excBase_ValueError.initEntry ?_⟩)))))))
  exact PySem.W.exc_init_tree (cls := .ref C) (t0 := t0) (dv := none) (c2 := .none) (c3 := .none) (b4 := .bool false) he hz fun h' k e' _ => h h' _ k e'
section
open PySem.W PySem.Calls
variable {P : Program} {w : World} {A : Around} {R : Result → Shared → Prop} {s : Shared} {K : Frag} {mg : Str → Option Value} {base : Heap}
theorem exc_init {C fI x t0 : Addr} {name qual a1 a2 : Str} {params : Arguments} {scope : Scope} {v1 v2 : Value} {p0 p1 p2 p3 p4 p5 p6 q0 q1 q2 q3 r0 r1 r2 r3 : Pos}
    (T : ExcI P K C fI name qual params [superInit a1 a2 p0 p1 p2 p3 p4 p5 p6, keepArg a1 q0 q1 q2 q3, keepArg a2 r0 r1 r2 r3] scope) (M : Mod K mg base) (bk : ∀ b o, base.get? b = some o → s.heap.get? b = some o)
    (xb0 : base.get? x = none) (hsup : mg "super" = none) (hd : A.depth < recursionLimit)
    (hx : s.heap.get? x = some (excObj C t0 none .none)) (n1 : findIn K (.ref C) a1 = some none) (n2 : findIn K (.ref C) a2 = some none) (ne : a1 ≠ a2)
    (hp : (params.posonlyargs ++ params.args).head?.map (·.arg) = some "self")
    (hb : ∀ (s : Shared) kV doc pm an cdv ct cc, BindsTo s (ksFn name qual params [superInit a1 a2 p0 p1 p2 p3 p4 p5 p6, keepArg a1 q0 q1 q2 q3, keepArg a2 r0 r1 r2 r3] scope .none kV doc pm an cdv ct cc) ⟨[.ref x, v1, v2], []⟩ [(("self" : Str), .ref x), (a1, v1), (a2, v2)])
    (hs : scope.names.lookup ("self" : Str) = some .local) (h1 : scope.names.lookup a1 = some .local) (h2 : scope.names.lookup a2 = some .local) (hks : scope.names.lookup ("super" : Str) = some .globalImplicit) (hkc : scope.names.lookup ("__class__" : Str) = some .free)
    (hcell : ∀ x ∈ scope.names, x.2 ≠ .cell) (hk : scope.kind = .function) (hco : scope.isCoroutine = false) (hgen : scope.isGenerator = false) (htop : (P.main.scope.names.lookup ("super" : Str)).isSome = false)
    {pl : Sem Bool} (hev : ∀ (L f cc : Addr) (cd : Value), eval (.Call (.Attribute (.Call (.Name "super" p0) [] [] p1) "__init__" p2) [.Name a1 p3, .Name a2 p4] [] p5) (ksEnv qual scope L f cd cc) = (do
      let ov ← attributeBase (.Call (.Name "super" p0) [] [] p1) "__init__" (ksEnv qual scope L f cd cc) (eval (.Call (.Name "super" p0) [] [] p1) (ksEnv qual scope L f cd cc))
      standAt p2.atName
      let (f', first) ← holding [ov] (getMethod ov "__init__" pl)
      callWith p5 f' first (backTo p5 (starEach [.Name a1 p3, .Name a2 p4] (ksEnv qual scope L f cd cc))) []))
    (d1 : (a1 == ("__debug__" : Str)) = false) (d2 : (a2 == ("__debug__" : Str)) = false) (s1 : ("self" : Str) ≠ a1) (s2 : ("self" : Str) ≠ a2)
    (h : ∀ h' tk dx t1, (∀ b o, b ≠ x → s.heap.get? b = some o → h'.get? b = some o) → x < dx → h'.get? x = some (excObj C t1 (some dx) .none) →
      h'.Ns1 dx (fun y => if y = a2 then some v2 else if y = a1 then some v1 else none) → R (.ok (.ret .none)) { s with heap := h', toks := tk }) :
    codeAny (model P w) A (.call (.ref fI) ⟨[.ref x, v1, v2], []⟩) R s := by
  obtain ⟨sk, sn', sg, sc, sm⟩ := scope
  dsimp only at hs h1 h2 hks hkc hcell hk hco hgen
  subst hk hco hgen
  obtain ⟨oc, od, osl, kV, doc, pm, an, cda, ct, cc, hf, hcd, ⟨ccl, cdd, vs, ccs, file, tf, hcode, hvs, hfile⟩, cl, cld, csl, hcc⟩ := T.fn
  obtain ⟨nm, q, N, bs, bm, sn, sub, ab, col, dd, k0, k1, k2, k3, k5, hC, hbm⟩ := T.oex.cls
  have X : K.In s.heap := M.kin.keeps bk
  obtain ⟨ar, har, hea⟩ := Option.map_eq_some_iff.mp hp
  refine ks_codeAny_call_defAt (fd := ksFn name qual params _ ⟨.function, sn', false, false, sm⟩ .none kV doc pm an (.ref cda) ct cc) hd (X _ _ hf) rfl (M.nolimit.keeps bk) (codeRec_of X hcd) rfl (hb _ _ _ _ _ _ _ _) hcell (fun y hy => ?_) (fun ha hns hka => ?_) rfl rfl rfl
  · rcases (show y = (("self" : Str), Value.ref x) ∨ y = (a1, v1) ∨ y = (a2, v2) from by simpa using hy) with rfl | rfl | rfl
    · exact hs
    · exact h1
    · exact h2
  have look : ∀ y, (([(("self" : Str), Value.ref x), (a1, v1), (a2, v2)] : List (Str × Value)).reverse.lookup y) = if y = a2 then some v2 else if y = a1 then some v1 else if y = ("self" : Str) then some (.ref x) else none := fun y => by
    show (match y == a2 with | true => some v2 | false => (match y == a1 with | true => some v1 | false => (match y == ("self" : Str) with | true => some (.ref x) | false => none))) = _
    by_cases e2 : y = a2
    · rw [if_pos e2, beq_iff_eq.mpr e2]
    · rw [if_neg e2, beq_eq_false_iff_ne.mpr e2]
      by_cases e1 : y = a1
      · rw [if_pos e1, beq_iff_eq.mpr e1]
      · rw [if_neg e1, beq_eq_false_iff_ne.mpr e1]
        by_cases e0 : y = ("self" : Str)
        · rw [if_pos e0, beq_iff_eq.mpr e0]
        · rw [if_neg e0, beq_eq_false_iff_ne.mpr e0]
  have hxa := hka _ _ hx
  have xlt : x < s.heap.objs.size := Heap.lt_size hx
  have Xa : K.In ha := X.keeps hka
  have ld : ∀ {A' : Around} {E : Value → Shared → Prop} {s' : Shared} {y : Str} {v : Value} {Q : Value → Shared → Prop}, s'.heap.Ns s.heap.objs.size (fun x_1 => List.lookup x_1 ([(("self" : Str), Value.ref x), (a1, v1), (a2, v2)] : List (Str × Value)).reverse) →
      sn'.lookup y = some .local → (([(("self" : Str), Value.ref x), (a1, v1), (a2, v2)] : List (Str × Value)).reverse.lookup y) = some v → Q v s' → wpAny (model P w) A' (loadName (ksEnv qual ⟨.function, sn', false, false, sm⟩ s.heap.objs.size fI (.ref cda) cc) y) Q E s' := fun {A' E s' y v Q} hn hl hv hq =>
    wpAny_loadName_local (env := ksEnv qual ⟨.function, sn', false, false, sm⟩ s.heap.objs.size fI (.ref cda) cc) rfl hl hn hv hq
  have l0 : (([(("self" : Str), Value.ref x), (a1, v1), (a2, v2)] : List (Str × Value)).reverse.lookup ("self" : Str)) = some (.ref x) := by rw [look, if_neg s2, if_neg s1, if_pos rfl]
  have l1 : (([(("self" : Str), Value.ref x), (a1, v1), (a2, v2)] : List (Str × Value)).reverse.lookup a1) = some v1 := by rw [look, if_neg ne, if_pos rfl]
  have l2 : (([(("self" : Str), Value.ref x), (a1, v1), (a2, v2)] : List (Str × Value)).reverse.lookup a2) = some v2 := by rw [look, if_pos rfl]
  obtain ⟨mb, bb, bbq⟩ := M.blt
  have kba : ∀ b o, base.get? b = some o → ha.get? b = some o := fun b o e => hka _ _ (bk _ _ e)
  refine ks_wpAt_execs_cons (ks_wpAt_Expr_any (ks_wpAt_MethodCall ?_ (hev _ _ _ _)))
  refine ks_wpAt_super_base (env := ksEnv qual ⟨.function, sn', false, false, sm⟩ s.heap.objs.size fI (.ref cda) cc) hks hkc (by decide) rfl (Xa _ _ hf) rfl har rfl (Xa _ _ hcode) rfl hvs hfile htop ?_
  refine ks_loadName_global rfl hks (loadGlobal_builtin (env := ksEnv qual ⟨.function, sn', false, false, sm⟩ s.heap.objs.size fI (.ref cda) cc) (M.glob.keeps kba) hsup (bb.keeps kba) ((bbq _ (by decide +kernel)).trans (by decide +kernel : bootBuiltins "super" = some (.type "super"))) ⟨rfl, ?_⟩)
  refine wpAny_loadName_free rfl hkc rfl ⟨_, Xa _ _ hcc, rfl⟩ ?_
  rw [hea]
  refine ld hns hs l0 ?_
  refine ks_wpAny_isType_cls (Xa _ _ hC) rfl ⟨rfl, ?_⟩
  refine ks_wpAny_call_super (Xa _ _ hC) rfl hxa rfl nofun (looks_mroIn Xa T.self) (fun hb' hso kb => ?_)
  have xb := kb _ _ hxa
  have Xb := Xa.keeps kb
  have IX : InstAt hb' x (excObj C t0 none .none) C none := ⟨xb, rfl, rfl, trivial⟩
  have hI : Looks (model P w) hb' (isInstance (.ref x) (.type "ValueError")) true := IX.type.andThen (looks_subIn Xb T.subB)
  (have hcl : clsIn K C = some { name := nm, bases := bs, mro := .ref C :: bm, ns := N, qualname := q, hasDict := true, slotNames := sn, subclasses := sub, abstract := ab, collection := col, hasDel := false } := by unfold clsIn; rw [hC] <;> rfl)
  have hsu := T.sup
  unfold ks_superIn at hsu
  rw [hcl] at hsu
  refine kxs_getMethod kxs_ValueError hso (looks_opaque Xb T.opq) (l₀ := .ref C :: bm) (fun A Q E s k q => wpAny_bind ((looks_clsIn Xb hcl) A _ E s k (wpAny_pure q))) rfl Xb hsu hI (ks_ne Xb IX hcl) (by decide) ?_
  have nsb : (hb'.push (kxs_mw "ValueError.__init__" x)).Ns s.heap.objs.size _ := (hns.keeps kb).keeps fun b o e => Heap.get?_push_of_some _ e
  refine kxs_callWith (i := "ValueError.__init__") (x := x) rfl (evalArgs_plain ?_)
  refine args_cons (wpAny_Name (ld nsb h1 l1 ?_) d1) rfl
  refine args_cons (wpAny_Name (ld nsb h2 l2 ?_) d2) rfl
  refine args_nil ⟨Heap.get?_push_size _ rfl, ?_⟩
  have kc : ∀ b o, hb'.get? b = some o → (hb'.push (kxs_mw "ValueError.__init__" x)).get? b = some o := fun b o e => Heap.get?_push_of_some _ e
  refine call_mw (Xb.keeps kc _ _ hC) (kc _ _ xb) (Heap.get?_push_size _ rfl) (by show 2 ≤ sizeLine; decide) fun hc t1 kd xd => ?_
  have xL : s.heap.objs.size ≠ x := Nat.ne_of_gt xlt
  have kall : ∀ b o, b ≠ x → s.heap.get? b = some o → hc.get? b = some o := fun b o nb e => kd b o nb (kc _ _ (kb _ _ (hka _ _ e)))
  have nsd : hc.Ns s.heap.objs.size _ := nsb.at fun o e => kd _ o xL e
  have xC : x ≠ C := ks_ne Xb IX hcl
  have nbx : ∀ b o, base.get? b = some o → b ≠ x := fun b o e z => by rw [z, xb0] at e; cases e
  have Xc : K.In hc := fun b o e => kall b o (nbx b o (M.kin _ _ e)) (X _ _ e)
  have sv : HandSPX.refsVE (.ref C :: bm) = true := hbm
  refine wpAt_of_wpAny (wpAny_execs_cons (plainObj_wpAny_Assign_Attribute (wpAny_Name (ld nsd h1 l1 ?_) d1) rfl))
  refine wpAny_Name (ld nsd hs l0 ?_) (by decide)
  refine set_plain Xc (ox := excObj C t1 none .none) (od := none) ⟨xd, rfl, rfl, trivial⟩ T.oex.sa ?_
  refine HandSPX.exc_osa (cd := { name := nm, bases := bs, mro := .ref C :: bm, ns := N, qualname := q, hasDict := true, slotNames := sn, subclasses := sub, abstract := ab, collection := col, hasDel := false }) Xc xd hcl sv rfl n1 (fun h' tk' dx k dn dne hx' hn => ?_)
  have nse : h'.Ns s.heap.objs.size _ := nsd.at fun o e => k _ o xL e
  have Xe : K.In h' := fun b o e => k b o (nbx b o (M.kin _ _ e)) (Xc _ _ e)
  refine wpAny_execs_cons (plainObj_wpAny_Assign_Attribute (wpAny_Name (ld nse h2 l2 ?_) d2) rfl)
  refine wpAny_Name (ld nse hs l0 ?_) (by decide)
  obtain ⟨oD, esD, epD, hoD, _, _⟩ := hn.count (ns := [a1]) (fun y hy => by
    by_cases e : y = a1
    · rw [e]; exact List.mem_cons_self ..
    · exact absurd (if_neg e) hy)
  refine set_plain Xe (ox := excObj C t1 (some dx) .none) (od := some oD) ⟨hx', rfl, rfl, hoD⟩ T.oex.sa ?_
  refine OEX.osa_old (cd := { name := nm, bases := bs, mro := .ref C :: bm, ns := N, qualname := q, hasDict := true, slotNames := sn, subclasses := sub, abstract := ab, collection := col, hasDel := false }) (nl := [a1]) Xe hx' hn (fun y hy => by
    by_cases e : y = a1
    · rw [e]; exact List.mem_cons_self ..
    · exact absurd (if_neg e) hy) (by show 1 ≤ 1000; decide) hcl sv rfl n2 (fun h2' tk2 k2 hn2 => ?_)
  refine wpAny_execs_nil ?_
  have dxs : s.heap.get? dx = none := by
    cases e : s.heap.get? dx with
    | none => rfl
    | some o =>
      have := Heap.lt_size (kall dx o dne e)
      exact absurd dn (Nat.not_le_of_lt this)
  have xdx : x < dx := Nat.lt_of_lt_of_le (Heap.lt_size xd) dn
  refine h h2' tk2 dx t1 (fun b o nb e => k2 b o (fun z => ?_) (k b o nb (kall b o nb e))) xdx (k2 _ _ (Ne.symm dne) hx') hn2
  rw [z, dxs] at e
  cases e
end
section
variable {X : Cx} {E : WX}
def tMk2 (C : Addr) (a1 a2 : Str) (ta : TA) : St → Hp → XK → Prop := fun σ H Q => ta σ H fun vs H1 => ∃ x y, vs = [x, y] ∧ ∀ d, H1 d = none → Q (.ref C) (some d) (upd H1 d (.xd [(a2, y), (a1, x)]))
theorem pmk_exi {C fI : Addr} {xn name qual a1 a2 : Str} {params : Arguments} {scope : Scope} {p0 p1 p2 p3 p4 p5 p6 q0 q1 q2 q3 r0 r1 r2 r3 np pos : Pos} {e1 e2 : Expr} {ta : TA} {k : Nat}
    (T : ExcI X.prog X.K C fI name qual params [superInit a1 a2 p0 p1 p2 p3 p4 p5 p6, keepArg a1 q0 q1 q2 q3, keepArg a2 r0 r1 r2 r3] scope) (hg : Gl X xn) (hm : X.mg xn = some (.ref C)) (hr : Room (k + 1) X.A) (ha : PA X [e1, e2] ta)
    (hinit : Mod X.K X.mg X.base → ∀ (A : Around) (s : Shared) (R : Result → Shared → Prop) (x t0 : Addr) (v1 v2 : Value), (∀ b o, X.base.get? b = some o → s.heap.get? b = some o) → X.base.get? x = none → A.depth < recursionLimit → s.heap.get? x = some (PySem.W.excObj C t0 none .none) →
      (∀ h' tk dx t1, (∀ b o, b ≠ x → s.heap.get? b = some o → h'.get? b = some o) → x < dx → h'.get? x = some (PySem.W.excObj C t1 (some dx) .none) →
        h'.Ns1 dx (fun y => if y = a2 then some v2 else if y = a1 then some v1 else none) → R (.ok (.ret .none)) { s with heap := h', toks := tk }) → codeAny (model X.prog X.w) A (.call (.ref fI) ⟨[.ref x, v1, v2], []⟩) R s)
    (hdb : (xn == ("__debug__" : Str)) = false := by decide) (he : starEach [e1, e2] X.env = (false, eval e1 X.env) :: starEach [e2] X.env := by rfl) (hpl : (backTo pos (starEach [e2] X.env)).any (·.1) = false := by rfl) :
    PMk X (.Call (.Name xn np) [e1, e2] [] pos) (tMk2 C a1 a2 ta) := by
  intro pins s σ H Q I h
  obtain ⟨nm, q, N, bs, bm, sn, sub, ab, col, dd, k0, k1, k2, k3, k5, hC, hbm⟩ := T.oex.cls
  refine wpAny_Call_Name_kw (ld_glob I hg hm (PySem.W.callWith_K (h₀ := X.base) I.ok.mod.kin T.oex.kC (thn (ha.run pos pins s σ H _ I h) fun us s1 hz => ?_) he hpl) hdb)
  obtain ⟨vs, H1, I1, r1, x, y, rfl, q1⟩ := hz
  refine ⟨I1.kIn, ?_⟩
  obtain ⟨u1, u2, rfl, rx, ry⟩ := vals2 r1
  (obtain ⟨hp, g, dr, tk, os⟩ := s1)
  have up : ∀ b o, hp.get? b = some o → ((hp.push (PySem.W.kdv_tup [u1, u2])).push (PySem.HandSPX.excO C hp.objs.size)).get? b = some o := fun b o e => Heap.get?_push_of_some _ (Heap.get?_push_of_some _ e)
  have hget : ((hp.push (PySem.W.kdv_tup [u1, u2])).push (PySem.HandSPX.excO C hp.objs.size)).get? (hp.objs.size + 1) = some (PySem.HandSPX.excO C hp.objs.size) := by heap_get
  have b0 : X.base.get? (hp.objs.size + 1) = none := by
    cases e : X.base.get? (hp.objs.size + 1) with
    | none => rfl
    | some o =>
      have z1 := Heap.lt_size e
      have z2 : X.base.objs.size ≤ hp.objs.size := Nat.le_trans I1.ok.bsz I1.sz
      exact absurd (Nat.lt_of_lt_of_le z1 z2) (Nat.not_lt.mpr (Nat.le_succ _))
  have room := hr.make C [u1, u2] []
  refine wpAny_call (PySem.HandSPX.call_own F.excBase_ValueError (fun Y => PySem.HandSPX.refsVE_contains Y bm hbm) (I1.kIn _ _ hC) (PySem.W.looks_findIn I1.kIn T.fnd) (fun self => PySem.W.bind_fn I1.kIn self T.isf) (by show 2 ≤ sizeLine; decide)
    (hinit I.ok.mod _ _ _ _ hp.objs.size u1 u2 (fun b o e => up b o (I1.bk b o e)) b0 (Nat.lt_of_le_of_lt (by rw [Nat.add_assoc]; exact Nat.le_add_right _ _) room.dp) hget fun h' tk' dx t1 kk lt hx hn => ⟨rfl, ?_⟩))
  obtain ⟨G, g1, g2⟩ := restrict h' fun b => decide (b ≠ hp.objs.size + 1)
  have gk : ∀ b, b ≠ hp.objs.size + 1 → G.get? b = h'.get? b := fun b hb => g1 b (decide_eq_true hb)
  have ge : G.get? (hp.objs.size + 1) = none := g2 _ (by simp)
  have nd : dx ≠ hp.objs.size + 1 := Nat.ne_of_gt lt
  have le : hp.objs.size ≤ dx := Nat.le_of_lt (Nat.lt_of_succ_lt lt)
  have kG : ∀ b o, hp.get? b = some o → G.get? b = some o := fun b o e => by
    have nb : b ≠ hp.objs.size + 1 := Nat.ne_of_lt (Nat.lt_succ_of_lt (Heap.lt_size e))
    rw [gk b nb]
    exact kk b o nb (up b o e)
  have hn1 : H1 dx = none := I1.hok.fresh le
  have J := I1.laid (t' := tk') (h' := G) (a := dx) (o := .xd [(a2, y), (a1, x)]) kG le ⟨_, hn.at fun o e => by rw [gk dx nd]; exact e, relO_put ry (relO_put (fs := []) (mA := fun _ => none) rx fun _ => True.intro)⟩
  refine ⟨hp.objs.size + 1, _, _, ⟨G, g, dr, tk', os⟩, _, .ref C, some dx, rfl, J, fun b o e => ?_, ge, hx, ⟨rfl, rfl⟩, rfl, rfl, ?_, rfl, I1.bare, raises_own T.oex.exC T.oex.tyC, q1 dx hn1⟩
  · have nb : b ≠ hp.objs.size + 1 := fun z => by
      have e' : G.get? b = some o := e
      rw [z, ge] at e'; cases e'
    exact (gk b nb).symm.trans e
  · rw [upd_ne (Ne.symm nd)]
    exact I1.hok.fresh (Nat.le_succ _)
def mRaise (c : Str) (ns : List Str) (ms : List (M Rv)) : M Fl := M.bind (mArgs ms) fun as => M.bind (M.lift (datsOf as)) fun ds => fun s => some (s, .error ⟨c, (ns.zip ds).reverse⟩)
theorem es_raise2 {C : Addr} {xn a1 a2 : Str} {e1 e2 : Expr} {m1 m2 : M Rv} {np pos pos' : Pos} (hc : X.calm = true) (tk : Takes X E) (hm : X.mg xn = some (.ref C)) (h : ∀ ta, PA X [e1, e2] ta → PMk X (.Call (.Name xn np) [e1, e2] [] pos) (tMk2 C a1 a2 ta)) (ha : EA X E [e1, e2] [m1, m2]) :
    ES X E (.Raise (some (.Call (.Name xn np) [e1, e2] [] pos)) none pos') (mRaise xn [a1, a2] [m1, m2]) :=
  PS.conv (ps_raise hc tk (h _ ha)) fun D σ H q => by
    obtain ⟨ba, O, Hf, s, R0, F⟩ := q
    refine ⟨ba, O, Hf, s, R0, (mArgs_len F.bind).imp (fun as s1 F1 vs H1 Hf1 R1 e1 ok1 => ?_) fun x s' q => ExS.at q⟩
    obtain ⟨l, F1⟩ := F1
    obtain ⟨ds, ed, F2⟩ := F1.bind.lift
    have rl := dats_rp ok1 ed
    have hl := rl.length
    have hv : vs.length = 2 := by rw [ok1.length, l]; rfl
    match ds, vs, rl, hl, hv with
    | [d1, d2], [x, y], rl, _, _ =>
      refine ⟨x, y, rfl, fun d hd => ?_⟩
      obtain ⟨_, _, z1, r1, z2⟩ := rl.cons_inv
      cases z1
      obtain ⟨_, _, z3, r2, z4⟩ := z2.cons_inv
      cases z3
      exact F2 σ _ Hf1 _ _ (R1.grow hd) e1 ⟨hm, d, _, rfl, upd_same, rfl, RpL.cons r2 (RpL.cons r1 RpL.nil)⟩
end
end Pu
/-! Pu15: defs called within an except suite; try .. except C as n. -/
namespace Pu
open PySem PySem.Spec PyProof.Rows L2
/-- as FnG, while an exception is handled -/
structure FnK (P : Program) (w : World) (K : PySem.W.Frag) (mg : Str → Option Value) (base : Heap) (CX : CXT) (k : Nat) (f : Addr) (fd : FuncData) (ps : List Str) (sp : Sp) : Prop where
  len : ∀ us H Q E, sp us H Q E → us.length = ps.length
  go : ∀ (A : Around) (outer : List Env) (s : Shared) (H : Hp) (args : Args) (us : List Value) (vs : List V) (Q : VK) (E : XK) (p : Addr × Obj), A.guards = some [] → L2H.RoomH k A → L2H.PinOk outer H s p → Env0 P w K mg base A outer s H →
    BindsTo s fd args (ps.zip us) → Vals vs us → sp vs H Q E → codeAny (model P w) A (.call (.ref f) args) (CR CX outer P w H s Q E) s
theorem fnK_of {P : Program} {w : World} {K : PySem.W.Frag} {mg : Str → Option Value} {base : Heap} {CX : CXT} {k : Nat} {f : Addr} {x qual : Str} {st : Stmt} {fd : FuncData} {N ps : List Str} {sp : Sp}
    (F : Fun K x qual st f fd) (S : FnScope N ps (defScope st)) (hlen : ∀ vs H Q E, sp vs H Q E → vs.length = ps.length)
    (body : ∀ (cdv : Value) (A : Around) (outer : List Env) (s : Shared) (H : Hp) (vs : List V) (Q : VK) (E : XK) (p : Addr × Obj), A.guards = some [] → L2H.RoomH k (A.deeper (envOfC qual (defScope st) s.heap.objs.size f cdv)) → sp vs H Q E →
      ∃ t, PSs (L2H.cxH CX P w K mg base N qual (defScope st) f cdv A outer s H E p) (defBody st) t ∧ t { nx := fun _ H' => Q .non H', rt := Q } (start N vs) H) : FnK P w K mg base CX (k + 1) f fd ps sp := by
  (obtain ⟨oc, od, kV, doc, pm, an, cdv, ct, osl, rfl, lk, hcd⟩ := F.ex)
  constructor
  · exact hlen
  · intro A outer s H args us vs Q E p hgd room pin e0 hb hv hsp
    have e1 := hlen _ _ _ _ hsp
    have hin : K.In s.heap := e0.mod.kin.keeps fun b o z => (e0.bs b o z).1
    have nl : s.heap.NoLimit := e0.mod.nolimit.keeps fun b o z => (e0.bs b o z).1
    have kinds : ∀ y ∈ ps.zip us, (defScope st).names.lookup y.1 = some .local ∨ ((defScope st).names.lookup y.1 = some .cell ∧ ((cellsFrom (s.heap.objs.size + 1) (defScope st).names []).lookup y.1).isSome = true) := by
      rintro ⟨n, v⟩ hy
      cases S.par n (List.of_mem_zip hy).1 with
      | inl q => exact Or.inl q
      | inr q => exact Or.inr ⟨q, PySem.W.cellsFrom_some _ _ _ (Or.inl q)⟩
    refine codeAny_call_function room.depth (hin _ _ lk) rfl S.co S.gen rfl (PySem.W.codeRec_of hin hcd) (hb _ _ _ _ ?_)
    refine wpAny_newFunctionEnv_cells S.kind kinds fun env ee s1 ic => ?_
    subst ee
    refine ⟨nl.keeps ic.toInCall.keep, codeAny_func ?_⟩
    obtain ⟨t, pt, q⟩ := body cdv A outer s H vs Q E p hgd (room.deeper _) hsp
    have I0 : Inv (L2H.cxH CX P w K mg base N qual (defScope st) f cdv A outer s H E p) [] (start N vs) H s1 := L2H.inv_startH S pin e0 e1 hv ic
    refine wpAny_mono (pt.run [] s1 (start N vs) H _ I0 q) (fun fl s' hs => ?_) fun e s' z => z
    have close : ∀ {σ' : L2.St} {H' : Hp} {v : V} {u : Value}, Inv (L2H.cxH CX P w K mg base N qual (defScope st) f cdv A outer s H E p) [] σ' H' s' → RelV v u → Q v H' → CE outer P w H s Q u s' := by
      intro σ' H' v u J r z
      exact ⟨v, H', J.os, J.bare, J.base, J.hok, r, z⟩
    cases fl with
    | next =>
      obtain ⟨σ', H', J, z⟩ := hs
      exact close (v := V.non) (u := Value.none) J rfl z
    | ret u =>
      obtain ⟨v, σ', H', J, r, z⟩ := hs
      exact close J r z
    | cont => exact (hs.choose_spec.choose_spec.2).elim
    | brk => exact (hs.choose_spec.choose_spec.2).elim
theorem fnMH {P : Program} {w : World} {K : PySem.W.Frag} {mg : Str → Option Value} {base : Heap} {k : Nat} {f : Addr} {x qual : Str} {st : Stmt} {fd : FuncData} {N ps : List Str} {F : Fn} {m : M Fl}
    (U : Fun K x qual st f fd) (Sc : FnScope N ps (defScope st))
    (body : ∀ (cdv : Value) (A : Around) (outer : List Env) (s : Shared) (H : Hp) (E : XK) (p : Addr × Obj), A.guards = some [] → L2H.RoomH k (A.deeper (envOfC qual (defScope st) s.heap.objs.size f cdv)) →
      ESs (L2H.cxH (L2.CX P w) P w K mg base N qual (defScope st) f cdv A outer s H E p) (fun c d _ H => E c d H) (defBody st) m)
    (hf : ∀ β as r, as.length = ps.length → F β as = some r → runDef N.length m β as = some r) : FnK P w K mg base (L2.CX P w) (k + 1) f fd ps (SpM K mg ps.length F) :=
  fnK_of U Sc (fun vs H Q E h => by
    obtain ⟨ba, O, Hf, β, as, r, β', hn, R, a, ef, post⟩ := h
    rw [a.length, hn]) fun cdv A outer s H vs Q E p hg hr h => ⟨_, body cdv A outer s H E p hg hr, def_conv hf h⟩
section
variable {X : Cx} {E : WX} {k : Nat} {f : Addr} {fd : FuncData} {ps : List Str} {sp : Sp} {x : Str} {p pos : Pos} {e : Expr} {es : List Expr} {t : TA}
def tCallK (sp : Sp) (t : TA) : TE := fun σ H Q => t σ H fun vs H1 => sp vs H1 Q fun _ _ _ => False
theorem pe_callK (G : FnK X.prog X.w X.K X.mg X.base (L2.CX X.prog X.w) k f fd ps sp) (hgd : X.A.guards = some []) (hr : L2H.RoomH k X.A) (hc : ∃ p, p ∈ X.pn) (hg : Gl X x) (hm : X.mg x = some (.ref f)) (hk : PySem.W.keepIn X.K (.ref f) = true) (hb : Binds X.K fd ps [])
    (ha : PA X
            (e :: es) t) (hdb : (x == ("__debug__" : Str)) = false := by decide) (he : starEach (e :: es) X.env = (false, eval e X.env) :: starEach es X.env := by rfl) (hpl : (backTo pos (starEach es X.env)).any (·.1) = false := by rfl) :
    PE X (.Call (.Name x p) (e :: es) [] pos) (tCallK sp t) := ⟨fun pins s σ H Q I h => by
  refine wpAny_Call_Name_kw (ld_glob I hg hm (PySem.W.callWith_K (h₀ := X.base) I.ok.mod.kin hk (thn (ha.run pos pins s σ H _ I h) fun us s1 hz => ?_) he hpl) hdb)
  obtain ⟨vs, H1, I1, r, q⟩ := hz
  obtain ⟨p, hp⟩ := hc
  have hl : us.length = ps.length := by rw [← r.length]; exact G.len _ _ _ _ q
  have b := hb s1 us I1.kIn (by rw [List.append_nil]; exact hl)
  rw [List.append_nil] at b
  obtain ⟨z1, z2, z3, z4, z5⟩ := I1.pin p (List.mem_append_left _ hp)
  refine ⟨I1.kIn, wpAny_call (codeAny_mono (G.go X.A X.stack s1 H1 ⟨us, []⟩ us vs Q _ p hgd hr ⟨z1, z2, fun hm => (List.mem_cons.mp (I1.stkSub p.1 hm)).elim z3 z4, z5⟩ I1.env0 b r q) fun r s' hq => ?_)⟩
  match r, hq with
  | .ok (.ret u), hq => exact I1.after hq
  | .error e, hq =>
    obtain ⟨_, _, _, _, _, _, _, _, _, _, _, _, z⟩ := hq
    exact z.elim⟩
end
/-! ### try .. except C as n -/
/-- the state behind the clause -/
def dropAt (i : Nat) (s : S) : S := { s with ρ := s.ρ.set i .no }
/-- a clause's meaning: x is the exception; nothing is raised there, no list of a name's own handed out -/
def mTry (i : Nat) (c : Str) (mb : M Fl) (h : Exn → M Fl) : M Fl := fun s => match mb s with
  | some (s', .error x) => if x.cls = c ∧ i < s'.ρ.length then (match h x (dropAt i s') with
    | some (s2, .ok .nx) => some (dropAt i s2, .ok .nx)
    | some (s2, .ok .bk) => some (dropAt i s2, .ok .bk)
    | some (s2, .ok .ct) => some (dropAt i s2, .ok .ct)
    | some (s2, .ok (.rt (.dat d))) => some (dropAt i s2, .ok (.rt (.dat d)))
    | _ => none) else none
  | r => r
theorem Rep.drop {K : PySem.W.Frag} {ba : Option Addr} {O Hf H : Hp} {σ : L2.St} {s : S} {i : Nat} {v : Option V} (R : Rep K ba O Hf H σ s) : Rep K ba O Hf H (σ.set i v) (dropAt i s) := by
  have nown : ∀ j ds, (dropAt i s).ρ[j]? = some (.own ds) → j ≠ i ∧ s.ρ[j]? = some (.own ds) := fun j ds e => by
    unfold dropAt at e
    by_cases q : i = j
    · subst q
      by_cases hi : i < s.ρ.length
      · rw [List.getElem?_set_self hi] at e; cases e
      · rw [List.getElem?_eq_none (by rw [List.length_set]; omega)] at e; cases e
    · rw [List.getElem?_set_ne q] at e
      exact ⟨Ne.symm q, e⟩
  refine ⟨R.reg, by unfold dropAt; simp only [List.length_set]; exact R.len, fun j sl x e1 e2 => ?_, fun j k ds es x ne e1 e2 e3 => ?_⟩
  · by_cases q : i = j
    · subst q
      unfold dropAt at e1
      by_cases hi : i < s.ρ.length
      · rw [List.getElem?_set_self hi] at e1; cases e1; trivial
      · rw [List.getElem?_eq_none (by rw [List.length_set]; omega)] at e1; cases e1
    · unfold dropAt at e1
      rw [List.getElem?_set_ne q] at e1 e2
      exact R.slot j sl x e1 e2
  · obtain ⟨n1, f1⟩ := nown j ds e1
    obtain ⟨n2, f2⟩ := nown k es e2
    rw [List.getElem?_set_ne (Ne.symm n1)] at e3
    rw [List.getElem?_set_ne (Ne.symm n2)]
    exact R.uni j k ds es x ne f1 f2 e3
section
variable {X : Cx} {E : WX}
theorem es_tryAs {x n : Str} {C : Addr} {i : Nat} {body suite : List Stmt} {b₀ : Stmt} {np pos pos' : Pos} {mb : M Fl} {hx : Exn → M Fl} {ts : Addr → Value → Option Addr → TS} (hs : X.stack = X.env :: X.outer) (hf : X.env.frame = some X.env.locals) (hN : X.N.Nodup) (hi : X.N[i]? = some n) (hln : X.env.kindOf n = some .local)
    (hg : Gl X x) (hd : (x == ("__debug__" : Str)) = false) (hm : X.mg x = some (.ref C)) (he : PySem.W.exmOne X.K (.ref C) (.ref C) = some true) (tk : Takes X E)
    (hb : ∀ (W : WX) (pn : List (Addr × Obj)) (xe : Value → Shared → Prop), Takes (X.tr pn xe) W → ESs (X.tr pn xe) W body mb)
    (hsu : ∀ (a : Addr) (oe : Obj) (cls : Value) (d : Option Addr) (pn : List (Addr × Obj)), Zc cls d oe → (∃ vs, oe.data = .fields vs) → PSs (X.suite a ((a, oe) :: pn)) (b₀ :: suite) (ts a cls d))
    (hts : ∀ (a : Addr) (d : Option Addr) (D : Ends) (σ : L2.St) (H : Hp) ba O Hf s (xx : Exn), Rep X.K ba O Hf H σ s → σ[i]? = some (some (.ref a)) → xx.cls = x → ExOk X.K X.mg Hf H xx (.ref C) d →
      Fits (hx xx s) (fun fl s' => ∀ σ' H' Hf', Rep X.K ba O Hf' H' σ' s' → Same Hf Hf' → EndOk X.K ba O Hf' H' σ' s' D fl) (fun _ _ => False) → ts a (.ref C) d D σ H) :
    ES X E (.Try body [.ExceptHandler (some (.Name x np)) (some n) (b₀ :: suite) pos'] [] [] pos) (mTry i x mb hx) :=
  PS.conv (ps_try_as (tb := fun W => tMS X.K X.mg W mb) (ts := ts) hs hf hN hi hln ⟨hg, hd, .inl hm⟩ tk (fun W pn xe t _ => hb W pn xe t) hsu) fun D σ H q => by
    obtain ⟨ba, O, Hf, s, R0, F⟩ := q
    refine ⟨ba, O, Hf, s, R0, ?_⟩
    unfold mTry at F
    cases em : mb s with
    | none => rw [em] at F; exact F.elim
    | some q =>
      obtain ⟨s', r⟩ := q
      rw [em] at F
      cases r with
      | ok fl => exact F
      | error xx =>
        intro σ' H' Hf' c d R' e' ex
        simp only at F
        split at F
        · rename_i hcls
          have hc : c = .ref C := by
            have z := ex.1
            rw [hcls.1, hm] at z
            exact (Option.some.inj z).symm
          subst hc
          refine ⟨true, he, fun _ a ha => ?_, fun z => by cases z⟩
          have hlen : i < σ'.length := by
            rw [← R'.len]
            exact hcls.2
          refine hts a d _ _ H' ba O Hf' (dropAt i s') xx R'.drop (by rw [List.getElem?_set_self hlen]) hcls.1 ex ?_
          cases eh : hx xx (dropAt i s') with
          | none => rw [eh] at F; exact F.elim
          | some q =>
            obtain ⟨s2, r2⟩ := q
            rw [eh] at F
            cases r2 with
            | error _ => exact F.elim
            | ok fl =>
              intro σ2 H2 Hf2 R2 e2
              cases fl with
              | nx => exact F _ H2 Hf2 R2.drop (Same.trans e' e2)
              | bk => exact F _ H2 Hf2 R2.drop (Same.trans e' e2)
              | ct => exact F _ H2 Hf2 R2.drop (Same.trans e' e2)
              | rt r => cases r with
                | dat d => exact F (σ2.set i none) H2 Hf2 R2.drop (Same.trans e' e2)
                | _ => exact F.elim
        · exact F.elim
end
end Pu
/-! Pu16: the bag's places; pairs of names; the law's first statement. -/
namespace Pu
open PySem PySem.Spec PyProof.Rows L2
def Bag.get (β : Bag) : Int → Option D
  | 0 => some (.int β.b0)
  | 1 => some (.int β.b1)
  | 2 => some (.int β.b2)
  | 3 => some (.list (β.cs.map .int))
  | _ => none
def Bag.put (β : Bag) (k z : Int) : Option Bag := match k with
  | 0 => some { β with b0 := z }
  | 1 => some { β with b1 := z }
  | 2 => some { β with b2 := z }
  | _ => none
def isBag (i : Nat) (s : S) : Bool := match s.ρ[i]? with
  | some .bag => true
  | _ => false
theorem isBag_at {K : PySem.W.Frag} {ba : Option Addr} {O Hf H : Hp} {σ : L2.St} {s : S} {i : Nat} (R : Rep K ba O Hf H σ s) (h : isBag i s = true) : ∃ a, ba = some a ∧ σ[i]? = some (some (.ref a)) := by
  unfold isBag at h
  split at h
  · rename_i e
    obtain ⟨x, e1, a, e2, e3⟩ := R.at e
    exact ⟨a, e2, by rw [e1, e3]⟩
  · cases h
def mBagIx (i : Nat) (k : Int) : M Rv := fun s => if isBag i s then (s.β.get k).map fun d => (s, .ok (.dat d)) else none
def mBagSet (i : Nat) (k : Int) (m : M Rv) : M Fl := M.bind m fun r s => match r with
  | .dat (.int z) => if isBag i s then (s.β.put k z).map fun β => ({ s with β := β }, .ok .nx) else none
  | _ => none
def mBagAug (i : Nat) (k : Int) (m : M Rv) : M Fl := fun s => if isBag i s then (match s.β.get k with
  | some (.int z) => (M.bind m fun r s' => match r with
    | .dat (.int y) => if isBag i s' then (s'.β.put k (z + y)).map fun β => ({ s' with β := β }, .ok .nx) else none
    | _ => none) s
  | _ => none) else none
theorem Rep.bagPut {K : PySem.W.Frag} {p : Addr} {O Hf H : Hp} {σ : L2.St} {s : S} {k z : Int} {β' : Bag} (R : Rep K (some p) O Hf H σ s) (h : s.β.put k z = some β') :
    ∃ xs j, H p = some (.lst xs) ∧ ixN xs.length k = some j ∧ Rep K (some p) O Hf (upd H p (.lst (xs.set j (.int z)))) σ { s with β := β' } := by
  obtain ⟨⟨c, h1, h2⟩, h3, h4⟩ := R.reg.bag p rfl
  have hos : β'.os = s.β.os := by
    unfold Bag.put at h
    (split at h <;> cases h <;> rfl)
  have key : ∀ xs', BagAt K Hf (upd H p (.lst xs')) p β' → Rep K (some p) O Hf (upd H p (.lst xs')) σ { s with β := β' } := fun xs' hb => by
    refine ⟨⟨fun b o e => ?_, fun b o e => ?_, R.reg.dis, fun a e => ?_, R.reg.tbs.put h1 lst_noT lst_noC, by show Obs K Hf _ β'.os; rw [hos]; exact R.reg.obs.put h3⟩, R.len, fun i sl x e1 e2 => ?_, R.uni⟩
    · rw [upd_ne (ne_of_none e h3)]; exact R.reg.sub b o e
    · rw [upd_ne (ne_of_none e h4)]; exact R.reg.out b o e
    · cases e; exact ⟨hb, h3, h4⟩
    · have q := R.slot i sl x e1 e2
      cases sl with
      | no => trivial
      | dat d => exact q
      | bag => exact q
      | ob n => exact q
      | own ds =>
        obtain ⟨a, q1, vs, z1, z2, z3, z4, z5⟩ := q
        exact ⟨a, q1, vs, by rw [upd_ne (fun w => z4 (by rw [w]))]; exact z1, z2, z3, z4, z5⟩
  unfold Bag.put at h
  split at h
  · cases h
    exact ⟨_, 0, h1, rfl, key _ ⟨c, upd_same, h2⟩⟩
  · cases h
    exact ⟨_, 1, h1, rfl, key _ ⟨c, upd_same, h2⟩⟩
  · cases h
    exact ⟨_, 2, h1, rfl, key _ ⟨c, upd_same, h2⟩⟩
  · cases h
theorem bag_get {K : PySem.W.Frag} {p : Addr} {O Hf H : Hp} {σ : L2.St} {s : S} {k : Int} {d : D} (R : Rep K (some p) O Hf H σ s) (h : s.β.get k = some d) : ∃ xs v, H p = some (.lst xs) ∧ atI xs k = some v ∧ Rp K Hf d v ∧ 0 ≤ k ∧ xs[k.toNat]? = some v := by
  obtain ⟨⟨c, h1, h2⟩, h3, h4⟩ := R.reg.bag p rfl
  unfold Bag.get at h
  split at h
  · cases h; exact ⟨_, _, h1, rfl, by simp only [Rp], by decide, rfl⟩
  · cases h; exact ⟨_, _, h1, rfl, by simp only [Rp], by decide, rfl⟩
  · cases h; exact ⟨_, _, h1, rfl, by simp only [Rp], by decide, rfl⟩
  · cases h; exact ⟨_, _, h1, rfl, h2, by decide, rfl⟩
  · cases h
section
variable {X : Cx} {E : WX}
/-- xs[k], k at or above 0, by values -/
def rGetN (K : PySem.W.Frag) : V → V → Hp → VK → Prop := fun o i H Q => ∃ p xs k v, o = .ref p ∧ i = .int k ∧ 0 ≤ k ∧ SqL K H p xs ∧ xs[k.toNat]? = some v ∧ Q v H
theorem get_listN : PGet X (rGetN X.K) := by
  intro pins s σ H o i ov iv Q I ro ri h
  obtain ⟨p, xs, k, v, rfl, rfl, h0, hq, hv, q⟩ := h
  cases ro
  obtain ⟨t, rfl⟩ := ri
  (obtain ⟨its, r, pl, hz⟩ := I.list hq)
  obtain ⟨w, ew, rw'⟩ := r.get hv
  have hn := line63
  have hl := (List.getElem?_eq_some_iff.mp hv).1
  exact wpAny_getItem_list pl.isList h0 (by omega) (by simpa using ew) ⟨v, H, I, rw', q⟩
theorem ev_bagIx {i : Nat} {x : Str} {k : Int} {j : Nat} {p1 p2 pos : Pos} (hb : PE X (.Name x p1) (tVar i)) (hs : PlainIx (.Constant (.int k) j p2)) : EV X E (.Subscript (.Name x p1) (.Constant (.int k) j p2) pos) (mBagIx i k) :=
  PE.conv (pe_ix ix_seq hb pe_int hs) fun σ H Q q => by
    obtain ⟨ba, O, Hf, s, R, F⟩ := q
    unfold mBagIx at F
    split at F
    · rename_i hb
      obtain ⟨a, e1, e2⟩ := isBag_at R hb
      subst e1
      cases e : s.β.get k with
      | none => rw [e] at F; exact F.elim
      | some d =>
        rw [e] at F
        obtain ⟨xs, v, z1, z2, z3, _⟩ := bag_get R e
        exact ⟨_, e2, .inl ⟨a, xs, k, v, rfl, rfl, SqL.of z1, z2, F v H Hf R (Same.refl _) z3⟩⟩
    · exact F.elim
theorem es_bagSet {i : Nat} {x : Str} {k : Int} {j : Nat} {p1 p2 p3 pos : Pos} {e : Expr} {m : M Rv} (hb : PE X (.Name x p1) (tVar i)) (he : EV X E e m)
    (ha : ∀ v, assign (.Subscript (.Name x p1) (.Constant (.int k) j p2) p3) X.env v = (do
      let ov ← holding [v] (eval (.Name x p1) X.env)
      let iv ← holding [v, ov] (eval (.Constant (.int k) j p2) X.env)
      standAt p3
      holding [v,
              ov, iv] (setItem ov iv v)
      release [v, ov, iv] []) := by intro _; rfl)
    (hs : swapsWithSole [.Subscript (.Name x p1) (.Constant (.int k) j p2) p3] e pos.line X.env = pure false := by rfl) (hw : swappedStores [.Subscript (.Name x p1) (.Constant (.int k) j p2) p3] e X.env = pure none := by rfl)
    (h1 : (assignEach [.Subscript (.Name x p1) (.Constant (.int k) j p2) p3] X.env).map (·.2) = [assign (.Subscript (.Name x p1) (.Constant (.int k) j p2) p3) X.env] := by rfl) :
    ES X E (.Assign [.Subscript (.Name x p1) (.Constant (.int k) j p2) p3] e pos) (mBagSet i k m) :=
  PS.conv (ps_asg he (pg_sub hb pe_int set_list ha) hs hw h1) fun D σ H q => by
    obtain ⟨ba, O, Hf, s, R, F⟩ := q
    refine ⟨ba, O, Hf, s, R, tMS.bind F fun r s1 F1 v H1 Hf1 R1 e1 ok1 => ?_⟩
    cases r with
    | dat d => cases d with
      | int z =>
        simp only at F1
        split at F1
        · rename_i hb
          obtain ⟨a, e2, e3⟩ := isBag_at R1 hb
          subst e2
          cases e : s1.β.put k z with
          | none => rw [e] at F1; exact F1.elim
          | some β' =>
            rw [e] at F1
            obtain ⟨xs, jj, z1, z2, R2⟩ := R1.bagPut e
            rw [rp_int (K := X.K) (Hf := Hf1) ok1]
            exact ⟨_, e3, a, xs, k, jj, rfl, rfl, z1, z2, F1 σ _ Hf1 R2 e1⟩
        · exact F1.elim
      | _ => exact F1.elim
    | _ => exact F1.elim
theorem es_bagAug {i : Nat} {x : Str} {k : Int} {j : Nat} {p1 p2 p3 pos : Pos} {e : Expr} {m : M Rv} (hb : PE X (.Name x p1) (tVar i)) (he : EV X E e m) :
    ES X E (.AugAssign (.Subscript (.Name x p1) (.Constant (.int k) j p2) p3) .Add e pos) (mBagAug i k m) :=
  PS.conv (ps_augS hb pe_int (tget := rGetN X.K) get_listN he ip_add set_list) fun D σ H q => by
    obtain ⟨ba, O, Hf, s, R, F⟩ := q
    unfold mBagAug at F
    split at F
    · rename_i hb
      obtain ⟨a, e1, e2⟩ := isBag_at R hb
      subst e1
      split at F
      · rename_i z e3
        obtain ⟨xs, v, z1, z2, z3, hk⟩ := bag_get R e3
        refine ⟨_, e2, ⟨a, xs, k, v, rfl, rfl, hk.1, SqL.of z1, hk.2, some a, O, Hf, s, R, tMS.bind F fun r s1 F1 w H1 Hf1 R1 e1 ok1 => ?_⟩⟩
        cases r with
        | dat d => cases d with
          | int y =>
            simp only at F1
            split at F1
            · rename_i hb1
              cases e : s1.β.put k (z + y) with
              | none => rw [e] at F1; exact F1.elim
              | some β' =>
                rw [e] at F1
                obtain ⟨ys, jj, y1, y2, R2⟩ := R1.bagPut e
                rw [rp_int (K := X.K) (Hf := Hf1) ok1]
                rw [rp_int (K := X.K) (Hf := Hf) z3]
                exact ⟨_, _, rfl, rfl, a, ys, k, jj, rfl, rfl, y1, y2, F1 σ _ Hf1 R2 e1⟩
            · exact F1.elim
          | _ => exact F1.elim
        | _ => exact F1.elim
      · exact F.elim
    · exact F.elim
/-! ### // by any divisor of fewer than 9000 bits -/
def dFdivW (a b : D) : Option Rs := match a, b with
  | .int i, .int j => if 0 < j ∧ j.natAbs.log2 < 9000 then some (.dat (.int (i / j))) else none
  | _, _ => none
theorem op2_fdivW {K : PySem.W.Frag} : Op2 K (rI CDivW fun i j => .int (i / j)) dFdivW := by
  intro Hf H d1 d2 x y res Q e b1 b2 er q
  unfold dFdivW at er
  split at er
  · split at er
    · cases er
      obtain rfl := brp_int b1
      obtain rfl := brp_int b2
      exact ⟨_, _, rfl, rfl, by assumption, q _ _ (.old (by simp only [Rp]))⟩
    · cases er
  · cases er
/-! ### names = a value that is unpacked -/
def mAsg (t : Tg) (m : M Rv) : M Fl := M.bind m fun r => M.bind (retain r) fun d => M.bind (t.put d) fun _ => M.pure .nx
theorem es_asg {tg e : Expr} {t : Tg} {m : M Rv} {pos : Pos} (he : EV X E e m) (hg : EG X tg t) (hs : swapsWithSole [tg] e pos.line X.env = pure false := by rfl) (hw : swappedStores [tg] e X.env = pure none := by rfl)
    (h1 : (assignEach [tg] X.env).map (·.2) = [assign tg X.env] := by rfl) : ES X E (.Assign [tg] e pos) (mAsg t m) :=
  PS.conv (ps_asg he hg hs hw h1) fun D σ H q => by
    obtain ⟨ba, O, Hf, s, R, F⟩ := q
    refine ⟨ba, O, Hf, s, R, tMS.bind F fun r s1 F1 v H1 Hf1 R1 e1 ok1 => ?_⟩
    obtain ⟨d, s2, Hf2, F2, e2, R2, p⟩ := retain_ok R1 ok1 F1.bind
    refine ⟨ba, O, Hf2, s2, d, R2, p, (Fits.put F2.bind).imp (fun _ s3 F3 σ3 H3 Hf3 R3 e3 _ => ?_) fun x s' q => q⟩
    exact F3 σ3 H3 Hf3 R3 (Same.trans e1 (Same.trans e2 e3))
/-! ### a, b = x, y with plain names -/
def mPar (i j : Nat) (m1 m2 : M Rv) : M Fl := M.bind m1 fun r1 => M.bind m2 fun r2 s => match slOf r1, slOf r2 with
  | some l1, some l2 => some ({ s with ρ := (s.ρ.set i l1).set j l2 }, .ok .nx)
  | _, _ => none
theorem par_end {K : PySem.W.Frag} {mg : Str → Option Value} {ba : Option Addr} {O Hf H : Hp} {σ : L2.St} {s : S} {i j : Nat} {v w : V} {l1 : Sl} {r2 : Rv} {D : Ends} (R : Rep K ba O Hf H σ s) (ok2 : RvOk K ba O Hf H σ s r2 w)
    (h1 : SlOk K ba O Hf H l1 (some v)) (hu : ∀ ds, l1 = .own ds → (∀ (k : Nat) es, s.ρ[k]? = some (.own es) → σ[k]? ≠ some (some v)) ∧ ∀ es, r2 = .fresh es → w ≠ v) {E : WX} {Hf0 : Hp} (e0 : Same Hf0 Hf)
    (F : Fits (match some l1, slOf r2 with
      | some l1, some l2 => some (({ s with ρ := (s.ρ.set i l1).set j l2 } : S), (Except.ok Fl.nx : Except Exn Fl))
      | _, _ => none) (fun fl s' => ∀ σ' H' Hf', Rep K ba O Hf' H' σ' s' → Same Hf0 Hf' → EndOk K ba O Hf' H' σ' s' D fl) (ExS K mg E ba O Hf0)) : D.nx ((σ.set i (some v)).set j (some w)) H := by
  have R1 := R.store (i := i) h1 fun ds z k es nk e => (hu ds z).1 k es e
  cases r2 with
  | dat d => exact F _ H Hf (R1.store (i := j) (sl := .dat d) ⟨w, rfl, ok2⟩ fun ds z => nomatch z) e0
  | fresh es =>
    obtain ⟨a, rfl, o, u⟩ := ok2
    refine F _ H Hf (R1.store (i := j) (sl := .own es) ⟨a, rfl, o⟩ fun ds z k fs nk e => ?_) e0
    by_cases q : i = k
    · subst q
      have hi : i < s.ρ.length := by
        have := (List.getElem?_eq_some_iff.mp e).1
        simpa using this
      rw [List.getElem?_set_self hi] at e
      rw [List.getElem?_set_self (by rw [← R.len]; exact hi)]
      intro z
      have z' := Option.some.inj (Option.some.inj z)
      exact (hu fs (Option.some.inj e)).2 es rfl z'.symm
    · rw [List.getElem?_set_ne q] at e ⊢
      exact u k fs e
  | slot k => exact F.elim
  | bag => exact F.elim
  | ob n => exact F.elim
  | freshK kvs => exact F.elim
theorem es_par {i j : Nat} {x y : Str} {a b : Expr} {m1 m2 : M Rv} {px py pt pos : Pos} {kt k2 pt2} (hc : X.calm = true) (hN : X.N.Nodup) (hi : X.N[i]? = some x) (hj : X.N[j]? = some y) (hij : i ≠ j)
    (hx : X.env.scope.names.lookup x = some .local) (hy : X.env.scope.names.lookup y = some .local) (ha : EV X E a m1) (hb : EV X E b m2)
    (hw : swappedStores
            [.Tuple [.Name x px, .Name y py] kt pt] (.Tuple [a, b] k2 pt2) X.env = pure (some [x, y]))
    (hs : swapsWithSole [.Tuple [.Name x px, .Name y py] kt pt] (.Tuple [a, b] k2 pt2) pos.line X.env = pure false := by rfl)
    (na : starEach [a, b] X.env = (false, eval a X.env) :: starEach [b] X.env := by rfl) (nb : starEach [b] X.env = (false, eval b X.env) :: starEach [] X.env := by rfl) :
    ES X E (.Assign [.Tuple [.Name x px, .Name y py] kt pt] (.Tuple [a, b] k2 pt2) pos) (mPar i j m1 m2) :=
  PS.conv (ps_par hc hN hi hj hij hx hy (pa_cons ha (pa_cons hb pa_nil nb) na) hw hs) fun D σ H q => by
    obtain ⟨ba, O, Hf, s, R, F⟩ := q
    refine ⟨ba, O, Hf, s, R, tMS.bind F fun r s1 F1 v H1 Hf1 R1 e1 ok1 => ?_⟩
    cases r with
    | dat d =>
      refine ⟨ba, O, Hf1, s1, R1, tMS.bind (end_mono e1 F1) fun r2 s2 F2 w H2 Hf2 R2 e2 ok2 => ⟨v, w, rfl, ?_⟩⟩
      exact par_end (l1 := .dat d) (E := E) (mg := X.mg) R2 ok2 ⟨v, rfl, Rp.mono e2 _ _ ok1⟩ (fun ds z => nomatch z) e2 F2
    | fresh ds =>
      obtain ⟨q, rfl, ⟨vs, k1, k2, k3, k4, k5⟩, hu⟩ := ok1
      have R1' := R1.outer k1 k2 k4 hu
      have so : Same O (upd O q (.lst vs)) := Same.updN k3
      have F1' := end_mono e1 F1
      refine ⟨ba, upd O q (.lst vs), Hf1, s1, R1', ?_⟩
      refine F1'.bind.imp (fun r2 s2 F2 w H2 Hf2 R2 e2 ok2 => ⟨_, w, rfl, ?_⟩) fun xx s' qq => ?_
      · have hq : H2 q = some (.lst vs) := R2.reg.out q _ upd_same
        have n2 : Hf2 q = none := by
          cases z : Hf2 q with
          | none => rfl
          | some o =>
            have z' := R2.reg.dis q (by rw [z]; simp)
            rw [upd_same] at z'; cases z'
        have apart : ∀ {c : Addr} {es : List Pu.D}, OwnAt X.K ba (upd O q (.lst vs)) Hf2 H2 es c → c ≠ q := fun {c es} o z => by
          obtain ⟨_, _, _, o3, _⟩ := o
          rw [z, upd_same] at o3; cases o3
        have R2' := R2.less so
        have ok2' : RvOk X.K ba O Hf2 H2 σ s2 r2 w := by
          cases r2 with
          | fresh es =>
            obtain ⟨c, z0, ⟨us, z1, z2, z3, z4, z5⟩, z6⟩ := ok2
            refine ⟨c, z0, ⟨us, z1, z2, ?_, z4, z5⟩, z6⟩
            cases z : O c with
            | none => rfl
            | some o => rw [so _ _ z] at z3; cases z3
          | freshK kvs =>
            obtain ⟨c, ws, z0, z1, z2, z3, z4, z5⟩ := ok2
            refine ⟨c, ws, z0, z1, z2, ?_, z4, z5⟩
            cases z : O c with
            | none => rfl
            | some o => rw [so _ _ z] at z3; cases z3
          | dat d => exact ok2
          | slot i => exact ok2
          | bag => exact ok2
          | ob n => exact ok2
        refine par_end (l1 := .own ds) (E := E) (mg := X.mg) R2' ok2' ⟨q, rfl, vs, hq, n2, k3, k4, RpL.mono e2 _ _ k5⟩ (fun ds' _ => ⟨fun k es e z => ?_, fun es z => ?_⟩) e2 F2
        · obtain ⟨c, z1, z2⟩ := R2.slot k _ _ e z
          cases z1
          exact apart z2 rfl
        · subst z
          obtain ⟨c, z0, z1, _⟩ := ok2
          intro z2
          rw [z0] at z2
          cases z2
          exact apart z1 rfl
      · intro H' Hf' c d R' e' ex
        exact qq _ H' Hf' c d (R'.less so) e' ex
    | slot k =>
      refine ⟨ba, O, Hf1, s1, R1, tMS.bind (end_mono e1 F1) fun r2 s2 F2 w H2 Hf2 R2 e2 ok2 => ?_⟩
      exact F2.elim
    | bag =>
      refine ⟨ba, O, Hf1, s1, R1, tMS.bind (end_mono e1 F1) fun r2 s2 F2 w H2 Hf2 R2 e2 ok2 => ?_⟩
      exact F2.elim
    | ob n =>
      refine ⟨ba, O, Hf1, s1, R1, tMS.bind (end_mono e1 F1) fun r2 s2 F2 w H2 Hf2 R2 e2 ok2 => ?_⟩
      exact F2.elim
    | freshK kvs =>
      refine ⟨ba, O, Hf1, s1, R1, tMS.bind (end_mono e1 F1) fun r2 s2 F2 w H2 Hf2 R2 e2 ok2 => ?_⟩
      exact F2.elim
end
end Pu
/-! Pu17: the law's def; the end of a law row. -/
namespace Pu
open PySem PySem.Spec PyProof.Rows L2
/-- the tables at the law's start -/
def Tb (K : PySem.W.Frag) (H : Hp) : Prop := ∀ p ∈ need K, LamX.TabS H p.1 p.2
/-- the law's own promise -/
def spLaw (n : Nat) (K : PySem.W.Frag) : Sp := fun vs H Q _ => ∃ (a : Addr) (ns : List Int), vs = [.ref a] ∧ SqL K H a (ns.map V.int) ∧ ns.length ≤ n ∧ Tb K H ∧ ∀ H', Q (.bl true) H'
def noH : Hp := fun _ => none
def noTab (H : Hp) : Hp := fun a => match H a with
  | some (.tbl _) => none
  | some (.rng _ _) => none
  | o => o
theorem noTab_sub {H : Hp} : Sub (noTab H) H := fun a o e => by
  unfold noTab at e
  split at e
  · cases e
  · cases e
  · exact .inr e
theorem noTab_no {H : Hp} : ∀ a ps, noTab H a ≠ some (.tbl ps) := fun a ps e => by
  unfold noTab at e
  split at e
  · cases e
  · cases e
  · rename_i h _
    exact h ps e
theorem noTab_mk {H : Hp} : ∀ a n, noTab H a ≠ some (mk n) := fun a n e => by
  unfold noTab at e
  split at e
  · cases e
  · cases e
  · rename_i h
    exact h _ _ e
theorem noTab_at {H : Hp} {a : Addr} {ps : Array Value} (h : H a = some (.tbl ps)) : noTab H a = none := by
  unfold noTab
  rw [h]
theorem noTab_keep {H : Hp} {a : Addr} {o : HO} (h : H a = some o) (hn : NoT o) (hr : ∀ i j, o ≠ .rng i j := by intro _ _ z; cases z) : noTab H a = some o := by
  unfold noTab
  rw [h]
  split
  · rename_i ps e
    exact absurd (Option.some.inj e) (hn ps)
  · rename_i i j e
    exact absurd (Option.some.inj e) (hr i j)
  · rfl
theorem sqL_noTab {K : PySem.W.Frag} {H : Hp} {a : Addr} {xs : List V} (h : SqL K H a xs) : SqL K (noTab H) a xs := by
  (rcases h with (h | ⟨o, h⟩) | h)
  · exact .inl (.inl (noTab_keep h lst_noT))
  · exact .inl (.inr ⟨o, noTab_keep h fun ps z => by cases z⟩)
  · exact .inr h
theorem regLaw {K : PySem.W.Frag} {H : Hp} {β : Bag} (T : Tb K H) : Reg K none noH (noTab H) H β := ⟨noTab_sub, (fun _ _ e => by cases e), fun _ _ => rfl, (fun _ e => by cases e), ⟨fun p hp => by
  obtain ⟨ps, h, r⟩ := T p hp
  exact ⟨⟨ps, h, r⟩, noTab_at h, rfl, fun z => by cases z⟩, noTab_no, fun _ _ z => by cases z⟩, ⟨fun a n e => absurd e (noTab_mk a n), fun a b n e _ => absurd e (noTab_mk a n)⟩⟩
theorem Rep.bagNew {K : PySem.W.Frag} {O Hf H : Hp} {σ : L2.St} {s : S} {i : Nat} {v : V} {b0 b1 b2 : Int} {cs : List Int} (R : Rep K none O Hf H σ s) (h : RvOk K none O Hf H σ s (.fresh [.int b0, .int b1, .int b2, .list (cs.map .int)]) v) :
    ∃ a, Rep K (some a) O Hf H (σ.set i (some v)) ⟨s.ρ.set i .bag, ⟨b0, b1, b2, cs, s.β.os⟩⟩ := by
  obtain ⟨a, rfl, ⟨vs, h1, h2, h3, h4, h5⟩, hu⟩ := h
  obtain ⟨x0, _, rfl, q0, r0⟩ := h5.cons_inv
  obtain ⟨x1, _, rfl, q1, r1⟩ := r0.cons_inv
  obtain ⟨x2, _, rfl, q2, r2⟩ := r1.cons_inv
  obtain ⟨x3, _, rfl, q3, r3⟩ := r2.cons_inv
  rw [r3.nil_inv, rp_int q0, rp_int q1, rp_int q2] at h1
  have q3' := q3
  simp only [Rp] at q3'
  obtain ⟨c, ws, rfl, _, _⟩ := q3'
  have R1 : Rep K (some a) O Hf H σ ⟨s.ρ, ⟨b0, b1, b2, cs, s.β.os⟩⟩ := by
    refine ⟨⟨R.reg.sub, R.reg.out, R.reg.dis, fun b e => ?_, R.reg.tbs.newBag h1 lst_noT, R.reg.obs⟩, R.len, fun j sl x e1 e2 => ?_, R.uni⟩
    · cases e; exact ⟨⟨c, h1, q3⟩, h2, h3⟩
    · have q := R.slot j sl x e1 e2
      cases sl with
      | no => trivial
      | dat d => exact q
      | own es =>
        obtain ⟨b, z1, us, z2, z3, z4, _, z6⟩ := q
        refine ⟨b, z1, us, z2, z3, z4, fun z => ?_, z6⟩
        cases z
        subst z1
        exact hu j es e1 e2
      | bag => obtain ⟨b, z, _⟩ := q; cases z
      | ob n => exact q
  exact ⟨a, R1.store (sl := .bag) ⟨a, rfl, rfl⟩ fun ds z => nomatch z⟩
theorem fnLaw {P : Program} {w : World} {K : PySem.W.Frag} {mg : Str → Option Value} {base : Heap} {k n i : Nat} {f : Addr} {x : Str} {st : Stmt} {fd : FuncData} {N : List Str} {p : Str} {s1 : Stmt} {rest : List Stmt} {mc : M Rv} {mr : M Fl}
    (U : Fun K x x st f fd) (Sc : FnScope N [p] (defScope st)) (hst : defBody st = s1 :: rest)
    (body : ∀ (cdv : Value) (A : Around) (outer : List Env) (s : Shared) (H : Hp) (E : XK), HasCode K f cdv → A.guards = some [] → Room k (A.deeper (envOfC x (defScope st) s.heap.objs.size f cdv)) →
      ∃ W : WX, PS (cxOf (L2.CX P w) P w K mg base N x (defScope st) f cdv A outer s H E) s1 (tAsg (tM K mg W mc) (gName i)) ∧
        ESs (cxOf (L2.CX P w) P w K mg base N x (defScope st) f cdv A outer s H E) (fun c d _ H => E c d H) rest mr)
    (hf : ∀ ns : List Int, ns.length ≤ n → ∃ s b0 b1 b2 cs s2, mc ⟨begin N.length [.dat (.list (ns.map .int))], ⟨0, 0, 0, [], []⟩⟩ = some (s, .ok (.fresh [.int b0, .int b1, .int b2, .list (cs.map .int)])) ∧
      mr ⟨s.ρ.set i .bag, ⟨b0, b1, b2, cs, s.β.os⟩⟩ = some (s2, .ok (.rt (.dat (.bool true))))) : FnG P w K mg base (L2.CX P w) (k + 1) f fd [p] (spLaw n K) :=
  fnG_of U Sc (fun vs H Q E h => by
    obtain ⟨a, ns, rfl, _⟩ := h
    rfl) fun cdv A outer s H vs Q E hcode hg hr h => by
    obtain ⟨W, h1, h2⟩ := body cdv A outer s H E hcode hg hr
    refine ⟨_, by rw [hst]; exact pss_cons h1 h2, ?_⟩
    obtain ⟨a, ns, rfl, hS, hn, hT, hQ⟩ := h
    obtain ⟨sA, b0, b1, b2, cs, s2, e1, e2⟩ := hf ns hn
    have ha : ArL K none (noTab H) [.dat (.list (ns.map .int))] [.ref a] := ⟨.ref a, [], rfl, by show Rp K (noTab H) (.list (ns.map .int)) (.ref a); simp only [Rp]; exact ⟨a, _, rfl, sqL_noTab hS, RpL.ints ns⟩, rfl⟩
    refine ⟨none, noH, noTab H, ⟨begin N.length [.dat (.list (ns.map .int))], ⟨0, 0, 0, [], []⟩⟩, rep_begin (regLaw hT) ha, ?_⟩
    rw [e1]
    intro v H1 Hf1 R1 _ ok1
    obtain ⟨b, R2⟩ := R1.bagNew (i := i) ok1
    refine ⟨some b, noH, Hf1, _, R2, ?_⟩
    rw [e2]
    intro σ' H' Hf' _ _ u hu
    rw [rp_bl (K := K) (Hf := Hf') hu]
    exact hQ H'
/-! ### the row's end -/
/-- code objects of the defs that make lambdas, their tables -/
def csK (K : PySem.W.Frag) : List (Addr × Addr) := lamOf.map fun x => He.cT K (x.1, none)
structure TabFacts (K : PySem.W.Frag) (h : Heap) : Prop where
  hd : ∀ p ∈ csK K, PySem.W.CodeHd h p.1 p.2
  out : ∀ p ∈ csK K, K.lookup p.2 = none
  empty : ∀ p ∈ csK K, h.get? p.2 = some { cls := .none, data := .fields #[] }
theorem lawG {P : Program} {w : World} {K : PySem.W.Frag} {mg mb : Str → Option Value} {k n : Nat} {fa a : Addr} {fd : FuncData} {x : Str} {s : Shared} {vs : List Value} {ns : List Int}
    (KX : K.In s.heap) (hmg : s.heap.Ns mainGlobals mg) (hmb : s.heap.Ns builtinsNs mb) (hbb : ∀ x : Str, x ≠ "__name__" → mb x = bootBuiltins x) (hlim : s.heap.NoLimit) (hgen : s.gens = #[])
    (TF : TabFacts K s.heap) (hbm : ∃ (bm : Addr) (ob : Obj), mg "__builtins__" = some (.ref bm) ∧ bm ≠ builtinsNs ∧ s.heap.get? bm = some ob ∧ ob.cls = .type "module" ∧ ob.dict = some builtinsNs ∧ ob.data = .plain)
    (ha : s.heap.get? a = some { cls := .type "list", data := .seq vs.toArray }) (hi : IntsAre vs ns) (hl : ns.length ≤ n) (hn : n ≤ sizeLine) (hr : Room k callerA)
    (G : ∀ base : Heap, K.In base → base.Ns mainGlobals mg → (∀ p ∈ csK K, LamX.TabB base mg p.1 p.2) → FnG P w K mg base (L2.CX P w) k fa fd [x] (spLaw n K)) (hbind : ∀ (s : Shared) (u : Value), BindsTo s fd ⟨[u], []⟩ [(x, u)]) :
    codeAny (model P w) callerA (.call (.ref fa) ⟨[.ref a], []⟩) (fun r s' => r = .ok (.ret (.bool true)) ∧ PySem.OldK s.heap s'.heap ∧ s'.os = s.os ∧ AllBare s'.gens) s := by
  have rv := vals_ints hi
  have lenV := hi.length
  have hlz : ns.length ≤ sizeLine := Nat.le_trans hl hn
  let ob : Obj := { cls := .type "list", data := .seq vs.toArray }
  let ts : List Addr := (csK K).map (·.2)
  have atT : ∀ b ∈ ts, s.heap.get? b = some { cls := .none, data := .fields #[] } ∧ K.lookup b = none := fun b hb => by
    obtain ⟨p, hp, rfl⟩ := List.mem_map.mp hb
    exact ⟨TF.empty p hp, TF.out p hp⟩
  have aT : a ∉ ts := fun z => by
    have q := (atT a z).1
    rw [ha] at q
    cases q
  let H : Hp := fun b => if b = a ∧ K.lookup a = none then some (.frz ob (.lst (ns.map V.int))) else if b ∈ ts then some (.tbl #[]) else none
  have Hts : ∀ b ∈ ts, H b = some (.tbl #[]) := fun b hb => by
    show (if b = a ∧ K.lookup a = none then _ else if b ∈ ts then _ else _) = _
    have n : ¬ (b = a ∧ K.lookup a = none) := fun z => aT (z.1 ▸ hb)
    rw [if_neg n, if_pos hb]
  have hO : ∀ b, H b = none ∨ (b = a ∧ K.lookup a = none ∧ H b = some (.frz ob (.lst (ns.map V.int)))) ∨ b ∈ ts := fun b => by
    by_cases h1 : b = a ∧ K.lookup a = none
    · exact .inr (.inl ⟨h1.1, h1.2, if_pos h1⟩)
    · by_cases h2 : b ∈ ts
      · exact .inr (.inr h2)
      · exact .inl ((if_neg h1).trans (if_neg h2))
  have hS : SqL K H a (ns.map V.int) := by
    cases hk : K.lookup a with
    | some o =>
      have e := KX a o hk
      rw [ha] at e
      cases e
      exact .inr ⟨_, vs.toArray, _, hk, rfl, rfl, rfl, by rw [List.size_toArray, lenV]; exact hlz, by simpa using rv⟩
    | none => exact .inl (.inr ⟨ob, if_pos ⟨rfl, hk⟩⟩)
  have hok : HOk P w H s.heap := fun b u z => by
    rcases hO b with q | ⟨rfl, _, q⟩ | q
    · rw [q] at z; cases z
    · rw [q] at z
      cases z
      exact ⟨ha, by rw [List.length_map]; exact hlz, vs, _, rv, ha⟩
    · rw [Hts b q] at z
      cases z
      exact (atT b q).1
  have hTb : Tb K H := by
    intro p hp
    obtain ⟨y, hy, rfl⟩ := List.mem_map.mp hp
    exact LamX.TabS.nil (Hts _ (List.mem_map.mpr ⟨_, List.mem_map.mpr ⟨y, hy, rfl⟩, rfl⟩))
  have keep : ∀ {b : Addr} {o : Obj}, s.heap.get? b = some o → H b = none → (hidT s.heap H).get? b = some o := fun e n => hidT_get e n
  have other : ∀ {b : Addr} {o : Obj}, s.heap.get? b = some o → (∀ xs m, o.data ≠ .seq xs m) → o.data ≠ .fields #[] → H b = none := fun {b o} e d1 d2 => by
    rcases hO b with z | ⟨z, _, _⟩ | z
    · exact z
    · rw [z, ha] at e
      cases e
      exact absurd rfl (d1 _ _)
    · rw [(atT b z).1] at e
      cases e
      exact absurd rfl d2
  have notDict : ∀ {b : Addr} {o : Obj} {es : Array DictEntry} {ep : Nat}, s.heap.get? b = some o → o.data = .dict es ep → H b = none := fun e d => other e (fun xs m z => by rw [d] at z; cases z) fun z => by rw [d] at z; cases z
  have nsUp : ∀ {b : Addr} {m : Str → Option Value}, s.heap.Ns b m → (hidT s.heap H).Ns b m := fun {b m} q => by
    obtain ⟨o, es, ep, e, d, r⟩ := q
    exact ⟨o, es, ep, keep e (notDict e d), d, r⟩
  have KB : K.In (hidT s.heap H) := fun b o e => keep (KX b o e) (by
    rcases hO b with z | ⟨rfl, z, _⟩ | z
    · exact z
    · rw [e] at z; cases z
    · rw [(atT b z).2] at e; cases e)
  have TB : ∀ p ∈ csK K, LamX.TabB (hidT s.heap H) mg p.1 p.2 := fun p hp => by
    have hE := TF.empty p hp
    have gP : mainGlobals ≠ p.2 := fun z => by
      obtain ⟨o, es, ep, e, d, _⟩ := hmg
      rw [z, hE] at e
      cases e
      cases d
    refine ⟨?_, ?_, gP⟩
    · obtain ⟨o, us, file, tf, flags, tg, inF, text, tt, c1, c2, c3, c4, c5⟩ := TF.hd p hp
      refine ⟨o, us, file, tf, flags, tg, inF, text, tt, keep c1 (other c1 (fun xs m z => by rw [c3] at z; cases z) fun z => ?_), c2, c3, c4, c5⟩
      rw [c3] at z
      cases z
      simp at c4
    · obtain ⟨bm, o, b1, b2, b3, b4, b5, b6⟩ := hbm
      refine ⟨bm, o, b1, b2, fun z => ?_, fun z => ?_, keep b3 (other b3 (fun xs m z => by rw [b6] at z; cases z) fun z => by rw [b6] at z; cases z), b4, b5, b6⟩
      · obtain ⟨o', es, ep, e, d, _⟩ := hmg
        rw [z, e] at b3
        cases b3
        rw [d] at b6
        cases b6
      · rw [z, hE] at b3
        cases b3
        cases b6
  obtain ⟨mc, l1, l2⟩ := hlim
  have M : Mod K mg (hidT s.heap H) := ⟨KB, nsUp hmg, ⟨mb, nsUp hmb, hbb⟩, mc, nsUp l1, l2⟩
  have E0' : Env0 P w K mg (hidT s.heap H) callerA [] s H := ⟨rfl, M, fun b o e => of_hidT e, Nat.le_of_eq (hidT_size _ _), trivial, nofun, hok, .of_eq hgen⟩
  refine codeAny_mono ((G _ KB (nsUp hmg) TB).go callerA [] s H ⟨[.ref a], []⟩ [.ref a] [.ref a] (fun v _ => v = .bl true) (fun _ _ _ => False) rfl hr E0' (hbind s (.ref a)) (.cons rfl .nil) ⟨a, ns, rfl, hS, hl, hTb, fun _ => rfl⟩) fun r s' h => ?_
  match r, h with
  | .error e, h =>
    (obtain ⟨_, _, _, _, _, _, _, _, _, _, _, _, z⟩ := h)
    exact z.elim
  | .ok (.ret u), h =>
    (obtain ⟨v, H', os, bare, un, hok', r', q⟩ := h)
    have q' : v = .bl true := q
    subst q'
    (obtain rfl : u = Value.bool true := r')
    have still : ∀ b o, b ∉ ts → s.heap.get? b = some o → s'.heap.get? b = some o := fun b o nb e => by
      rcases hO b with z | ⟨rfl, _, z⟩ | z
      · exact un.keep b o e z (by intro z; exact absurd (show b ∈ ([] : List Addr) from z) (by simp)) (by simp)
      · obtain ⟨e1, _⟩ := hok b _ z
        obtain ⟨e2, _⟩ := hok' b _ (un.frzs b ob _ z)
        rw [e] at e1; cases e1
        exact e2
      · exact absurd z nb
    have more : ∀ b ∈ ts, ∃ ms : Array Value, s'.heap.get? b = some { cls := .none, data := .fields ms } := fun b hb => by
      obtain ⟨ms, z⟩ := un.tbls b #[] (Hts b hb)
      exact ⟨_, hok' b _ z⟩
    (refine ⟨rfl, ⟨fun b o e => ?_, fun b o e => ?_⟩, os, bare⟩)
    · by_cases hb : b ∈ ts
      · obtain ⟨p,
              hp, rfl⟩ := List.mem_map.mp hb
        obtain ⟨ms, hm⟩ := more _ hb
        rw [TF.empty p hp] at e
        cases e
        exact .inr (.inl ⟨((TF.hd p hp).tab (TF.empty p hp)).isCodeTable, rfl, #[], ms, rfl, by rw [Array.empty_append]; exact hm⟩)
      · exact .inl (still b o hb e)
    · by_cases hb : b ∈ ts
      · obtain ⟨ms, hm⟩ := more b hb
        exact ⟨_, hm⟩
      · exact ⟨o, still b o hb e⟩
theorem walkG {l : PySem.W.OpenLaw} {n k : Nat} {q : Program} {loose : List Str} {XP : (Str → Option Value) → Heap → Prop} {YP : World → Heap → Prop} {d : DefRec} {x : Str}
    (hn : l.most
            = some n) (hn2 : n ≤ sizeLine) (hdf : d.params.defaults = []) (hr : Room k callerA)
    (F : ∀ (w
            : World) (mg : Str → Option Value) (fa : Addr) (h : Heap), YP w h → h.Ns mainGlobals mg → mg d.name = some (.ref fa) →
      ∃ (K : PySem.W.Frag) (fd : FuncData), K.In h ∧ TabFacts K h ∧ (∀ (s : Shared) (u : Value), BindsTo s fd ⟨[u], []⟩ [(x, u)]) ∧
        ∀ base : Heap, K.In base → base.Ns mainGlobals mg → (∀ p ∈ csK K, LamX.TabB base mg p.1 p.2) → FnG l.prog w K mg base (L2.CX l.prog w) k fa fd [x] (spLaw n K)) :
    PySem.W.WalkO q loose XP YP l.row.toRowW d [] (fun
            f vs => PySem.call f vs) := by
  (refine Att.attach_call hn hdf fun w s₀ s₁ mg mb fa o pm cd doc a vs ns G Y ho hd hcd hmg hobj hints hlen hg => ?_)
  obtain ⟨K, fd, KX, TF, hb, hF⟩ := F w mg fa _ Y G.T.g hmg
  exact lawG KX G.T.g G.T.b G.T.builtins G.T.nolimit hg TF G.T.bmain hobj hints hlen hn2 hr hF hb
end Pu
/-! Pu18: the head's facts, with those of exception classes that keep their arguments. -/
namespace Pu
open PySem PySem.Spec PyProof.Rows L2
/-- an exception class of the text and its __init__ -/
structure InD where
  cls : Str
  name : Str
  qual : Str
  params : Arguments
  body : List Stmt
  scope : Scope
abbrev InV : Type := Option (Str × Str × Arguments × FuncBody × Scope × Addr × List Str × Addr)
def InD.at_ (K : PySem.W.Frag) (d : InD) : Addr := He.ma K (He.ga K d.cls) "__init__"
def InD.obs (K : PySem.W.Frag) (d : InD) : InV := match K.lookup (d.at_ K) with
  | some ⟨_, _, .func fd, _⟩ => some (fd.name, fd.qualname, fd.params, fd.body, fd.scope, fd.globals, fd.closure.map (·.1), fd.builtins)
  | _ => none
def InD.val (d : InD) : InV := some (d.name, d.qual, d.params, .stmts d.body, d.scope, mainGlobals, ["__class__"], builtinsNs)
def oexB (K : PySem.W.Frag) (C : Addr) : Bool := (match K.lookup C with
  | some ⟨.type t, _, .cls cd, sl⟩ => decide (t = "type") && (match cd.mro, sl.toList with
    | .ref C' :: bm, [_, _, _, _, some (.builtin n), _] => decide (C' = C) && decide (n = "ValueError.__new__") && !cd.hasDel && cd.hasDict && PySem.HandSPX.refsVE bm
    | _, _ => false)
  | _ => false) && decide (PySem.W.findIn K (.ref C) "__setattr__" = some (some (.builtin "object.__setattr__"))) && decide (PySem.W.subIn K (.ref C) (.type "BaseException") = some true) && decide (PySem.W.typeIn K (.ref C) = some (.type "type")) && PySem.W.keepIn K (.ref C)
theorem oexB_ok {K : PySem.W.Frag} {C : Addr} (h : oexB K C = true) : OexC K C := by
  unfold oexB at h
  (simp only [Bool.and_eq_true, decide_eq_true_eq] at h)
  obtain ⟨⟨⟨⟨h1, h2⟩, h3⟩, h4⟩, h5⟩ := h
  refine ⟨?_, h2, h3, h4, h5⟩
  cases e : K.lookup C with
  | none => rw [e] at h1; cases h1
  | some o =>
    rw [e] at h1
    obtain ⟨oc, od, dt, sl⟩ := o
    cases oc with
    | type t =>
      cases dt with
      | cls cd =>
        (simp only [Bool.and_eq_true, decide_eq_true_eq] at h1)
        obtain ⟨rfl, h1⟩ := h1
        split at h1
        · (rename_i C' bm k0 k1 k2 k3 n k5 hm hs)
          simp only [Bool.and_eq_true, decide_eq_true_eq, Bool.not_eq_true'] at h1
          obtain ⟨⟨⟨⟨rfl, rfl⟩, hd⟩, hh⟩, hb⟩ := h1
          obtain ⟨nm, bs, mro, ns, qn, hdd, sn, sub, ab, col, del⟩ := cd
          dsimp only at hm hd hh
          subst hm hd hh
          obtain ⟨l⟩ := sl
          simp only at hs
          subst hs
          exact ⟨nm, qn, ns, bs, bm, sn, sub, ab, col, od, k0, k1, k2, k3, k5, rfl, hb⟩
        · cases h1
      | _ => cases h1
    | _ => cases dt <;> cases h1
def InD.ok (file : Str) (K : PySem.W.Frag) (d : InD) : Bool :=
  oexB K (He.ga K d.cls) && decide (PySem.W.findIn K (.ref (He.ga K d.cls)) "__init__" = some (some (.ref (d.at_ K)))) && decide (PySem.W.typeIn K (.ref (d.at_ K)) = some (.type "function")) &&
  (match K.lookup (d.at_ K) with
    | some ⟨_,
            _, .func fd, _⟩ => (match fd.defaults with
        | .none => true
        | _ => false) && PySem.W.codeIn K fd.code d.qual && (match fd.code with
        | .ref cda => (match K.lookup cda with
          | some ⟨_, _, .fields vs, _⟩ => (match (vs[2]? : Option Value) with
            | some (Value.str f _) => file == f
            | _ => false)
          | _ => false)
        | _ => false) && (match fd.closure with
        | [(_, cc)] => (match K.lookup cc with
          | some ⟨_, _, .cell (some (.ref D)), _⟩ => decide (D = He.ga K d.cls)
          | _ => false)
        | _ => false)
    | _ => false) &&
  decide (PySem.W.nsIn K cStatics "thirdparty.any" = some none) && decide (PySem.W.ks_superIn K (He.ga K d.cls) (He.ga K d.cls) "__init__" = some (some (.builtin "ValueError.__init__"))) && decide (PySem.W.subIn K (.ref (He.ga K d.cls)) (.type "ValueError") = some true) &&
  decide (PySem.W.mroIn K (He.ga K d.cls) (.ref (He.ga K d.cls)) = some true) && xfB K (He.ga K d.cls)
theorem InD.excI {P : Program} {K : PySem.W.Frag} {d : InD} (e : d.obs K = d.val) (c : d.ok P.main.file K = true) : ExcI P K (He.ga K d.cls) (d.at_ K) d.name d.qual d.params d.body d.scope ∧ XfC K (He.ga K d.cls) := by
  unfold InD.ok at c
  simp only [Bool.and_eq_true, decide_eq_true_eq] at c
  obtain ⟨⟨⟨⟨⟨⟨⟨⟨c1, c2⟩, c3⟩, c4⟩, c5⟩, c6⟩, c7⟩, c8⟩, c9⟩ := c
  refine ⟨⟨oexB_ok c1, c2, c3, ?_, c5, c6, c7, c8⟩, xfB_ok c9⟩
  unfold InD.obs at e
  cases q : K.lookup (d.at_
          K) with
  | none => rw [q] at c4; cases c4
  | some o =>
    rw [q] at c4 e
    obtain ⟨oc, od, dt, osl⟩ := o
    cases dt with
    | func fd =>
      obtain ⟨m1, m2, m3, m4, m5, m6, m7, m8, m9, m10, m11, m12, m13, m14, m15⟩ := fd
      simp only [Bool.and_eq_true] at c4
      obtain ⟨⟨⟨k0, k1⟩, k2⟩, k3⟩ := c4
      have k0' : m8 = .none := by cases m8 <;> first | rfl | cases k0
      subst k0'
      have e2 : (some (m1, m2, m3, m4, m5, m6, m7.map (·.1), m15) : InV) = some (d.name, d.qual, d.params, FuncBody.stmts d.body, d.scope, mainGlobals, [("__class__" : Str)], builtinsNs) := e
      (simp only [Option.some.injEq, Prod.mk.injEq] at e2)
      (obtain ⟨h1, h2, h3, h4, h5, h6, h7, h8⟩ := e2)
      subst h1 h2 h3 h4 h5 h6 h8
      match m7, h7, k3 with
      | [(n1, cc)], h7, k3 =>
        have h7' : n1 = "__class__" := by simpa using h7
        subst h7'
        cases m13 with
        | ref cda =>
          refine ⟨oc, od, osl, m9, m10, m11, m12, cda, m14, cc, rfl, k1, ?_, ?_⟩
          · cases q2 : K.lookup cda with
            | none => simp only [q2] at k2; cases k2
            | some o2 =>
              simp only [q2] at k2
              obtain ⟨a1, a2, a3, a4⟩ := o2
              cases a3 with
              | fields vs =>
                simp only at k2
                cases q3 : vs[2]? with
                | none => rw [q3] at k2; cases k2
                | some v =>
                  rw [q3] at k2
                  cases v with
                  | str f tf => exact ⟨a1, a2, vs, a4, f, tf, rfl, q3, k2⟩
                  | _ => cases k2
              | _ => cases k2
          · cases q2 : K.lookup cc with
            | none => simp only [q2] at k3; cases k3
            | some o2 =>
              simp only [q2] at k3
              obtain ⟨a1, a2, a3, a4⟩ := o2
              cases a3 with
              | cell v =>
                cases v with
                | none => cases k3
                | some v =>
                  cases v with
                  | ref D =>
                    have z : D = He.ga K d.cls := of_decide_eq_true k3
                    exact ⟨a1, a2, a4, by rw [z]⟩
                  | _ => cases k3
              | _ => cases k3
        | _ => cases k2
    | _ => cases c4
/-! ### the Hook -/
abbrev AlP : Type := He.AlD × (Bool × List InV)
def obsP (file : Str) (fa : List He.Fa) (fn : List He.DefD) (xs : List InD) (K : PySem.W.Frag) : AlP := (He.obsD fa fn K, (xs.all fun d => d.ok file K), xs.map fun d => d.obs K)
def valP (fn : List He.DefD) (xs : List InD) : AlP := (He.valD fn, true, xs.map InD.val)
def obsPG (file : Str) (n : Nat) (fa : List He.Fa) (fn : List He.DefD) (xs : List InD) (g : Addr → Option Obj) : AlP := obsP file fa fn xs (He.frG g (cStatics :: He.asD g n))
def hookP (file : Str) (n : Nat) (fa : List He.Fa) (fn : List He.DefD) (xs : List InD) : PySem.W.Hook where
  α := AlP
  obs := fun s => obsPG file n fa fn xs s.heap.get?
  val := fun _ => valP fn xs
  says := fun _ h => ∃ K : PySem.W.Frag, K.In h ∧ obsP file fa fn xs K = valP fn xs
  of := fun _ _ e => ⟨_, He.frG_in, e⟩
  keeps := fun _ _ _ ⟨K,
          hK, c⟩ k => ⟨K, PySem.W.Frag.In.keeps hK k, c⟩
theorem obsPG_eq {file : Str} {n : Nat} {fa : List He.Fa} {fn : List He.DefD} {xs : List InD} {g : Addr → Option Obj} {s : Shared} (h : ∀ a, g a = s.heap.get? a) : obsPG file n fa fn xs g = (hookP file n fa fn xs).obs s := by
  (have e : g = s.heap.get? := funext h)
  rw [e] <;> rfl
theorem saysD {file : Str} {fa : List He.Fa} {fn : List He.DefD} {xs : List InD} {K : PySem.W.Frag} (c : obsP file fa fn xs K = valP fn xs) : He.SaysD fa fn K := congrArg (fun z : AlP => z.1) c
theorem saysX {P : Program} {fa : List He.Fa} {fn : List He.DefD} {xs : List InD} {K : PySem.W.Frag} (c : obsP P.main.file fa fn xs K = valP fn xs) (i : Nat) {d : InD} (h : xs[i]? = some d) : ExcI P K (He.ga K d.cls) (d.at_ K) d.name d.qual d.params d.body d.scope ∧ XfC K (He.ga K d.cls) := by
  have c1 : (xs.all fun d => d.ok P.main.file K) = true := congrArg (fun z : AlP => z.2.1) c
  have c2 : (xs.map fun d => d.obs K) = xs.map InD.val := congrArg (fun z : AlP => z.2.2) c
  have c3 : (xs.map fun d => d.obs K)[i]? = (xs.map InD.val)[i]? := by rw [c2]
  rw [List.getElem?_map, List.getElem?_map, h] at c3
  exact InD.excI (Option.some.inj c3) (List.all_eq_true.mp c1 d (List.mem_of_getElem? h))
/-- a def of the head, in the layer's words -/
theorem funOf {K : PySem.W.Frag} {x : Str} {st : Stmt} {f : Addr} {fd : FuncData} (F : FunD K x x (defArgs st) (defBody st) (defScope st) [] [] f fd) : Fun K x x st f fd := by
  obtain ⟨⟨oc, od, dV, kV, doc, pm, an, cdv, ct, osl, e1, lk, hcd, hD, _⟩, kp⟩ := F
  (rcases hD with ⟨_, rfl⟩ | ⟨e, _⟩)
  · exact ⟨⟨oc, od, kV, doc, pm, an, cdv, ct, osl, e1, lk, hcd⟩, kp⟩
  · exact absurd rfl e
end Pu
/-! Pu19: comparisons by name; sorted of at most two; likeness of two results. -/
namespace Pu
open PySem PySem.Spec PyProof.Rows L2
abbrev cEq : D → D → Option Rs := fun a b => (dEqB a b).map fun k => .dat (.bool k)
abbrev cNe : D → D → Option Rs := fun a b => ((dEqB a b).map (!·)).map fun k => .dat (.bool k)
abbrev cLt : D → D → Option Rs := fun a b => (dLtB a b).map fun k => .dat (.bool k)
abbrev cLe : D → D → Option Rs := fun a b => (dLeB a b).map fun k => .dat (.bool k)
abbrev cGt : D → D → Option Rs := fun a b => (dGtB a b).map fun k => .dat (.bool k)
abbrev cGe : D → D → Option Rs := fun a b => (dGeB a b).map fun k => .dat (.bool k)
abbrev cIn : D → D → Option Rs := fun a b => (dInB a b).map fun k => .dat (.bool k)
abbrev cNotIn : D → D → Option Rs := fun a b => ((dInB a b).map (!·)).map fun k => .dat (.bool k)
theorem roomU {k : Nat} {A : Around} (r : L2H.RoomH k A) : A.units + 64 < cLine := by have := r.un; omega
/-! ### sorted of no more than two whole numbers -/
def dSort2 (d : D) : Option Rs := match seqD d with
  | some [] => some (.fresh [])
  | some [.int i] => some (.fresh [.int i])
  | some [.int i, .int j] => some (.fresh (if i ≤ j then [.int i, .int j] else [.int j, .int i]))
  | _ => none
theorem sort_two (i j : Int) : sortD [.int i, .int j] = if i ≤ j then [.int i, .int j] else [.int j, .int i] := by
  have h : sortD [.int i, .int j] = ([i, j].mergeSort (fun a b => decide (a ≤ b))).map PyData.int := by
    unfold sortD
    have e := PySem.W.dataLe_int (fun b : Int => b)
    have e2 := PySem.W.sort_maps (r := fun a b : Int => decide (a ≤ b)) (s := PySem.W.dataLe false id) PyData.int (l := [i, j]) (fun a _ b _ => by
      have z := congrFun (congrFun e a) b
      exact z.symm)
    exact e2.symm
  rw [h]
  by_cases q : i ≤ j
  · simp [List.mergeSort, List.MergeSort.Internal.splitInTwo, List.merge, q]
  · simp [List.mergeSort, List.MergeSort.Internal.splitInTwo, List.merge, q]
theorem o1_sort2 {X : Cx} : Op1 X.K (fun v => rSortedD X.K [v]) dSort2 := by
  intro Hf H d x res Q e b er q
  refine o1_sorted Hf H d x res Q e b ?_ q
  unfold dSort2 at er
  unfold dSorted
  split at er
  · rename_i h
    cases er
    have z : sortD [] = [] := by unfold sortD; simp
    rw [h, Option.bind_some, if_pos (show sortB [] = true from rfl), z]
  · rename_i i h
    cases er
    have z : sortD [.int i] = [.int i] := by unfold sortD; simp
    rw [h, Option.bind_some, if_pos (show sortB [.int i] = true from rfl), z]
  · rename_i i j h
    cases er
    rw [h, ← sort_two]
    rfl
  · cases er
/-! ### likeness -/
mutual
def sameD : D → D → Bool
  | .none, .none => true
  | .bool a, .bool b => a == b
  | .int a, .int b => decide (a = b)
  | .str a, .str b => decide (a = b)
  | .list a, .list b => sameL a b
  | .tuple a, .tuple b => sameL a b
  | _, _ => false
def sameL : List D → List D → Bool
  | [], [] => true
  | a :: as, b :: bs => sameD a b && sameL as bs
  | _, _ => false
end
mutual
theorem sameD_eq : ∀ a b : D, sameD a b = true → a = b
  | .none, b, h => by cases b <;> first | rfl | cases h
  | .bool a, b, h => by
    cases b with
    | bool b => rw [eq_of_beq (show (a == b) = true from by simpa [sameD] using h)]
    | _ => simp [sameD] at h
  | .int a, b, h => by
    cases b with
    | int b => rw [show a = b from by simpa [sameD] using h]
    | _ => simp [sameD] at h
  | .str a, b, h => by
    cases b with
    | str b => rw [show a = b from by simpa [sameD] using h]
    | _ => simp [sameD] at h
  | .list a, b, h => by
    cases b with
    | list b => rw [sameL_eq a b (by simpa only [sameD] using h)]
    | _ => simp [sameD] at h
  | .tuple a, b, h => by
    cases b with
    | tuple b => rw [sameL_eq a b (by simpa only [sameD] using h)]
    | _ => simp [sameD] at h
  | .dict a, b, h => by simp [sameD] at h
theorem sameL_eq : ∀ a b : List D, sameL a b = true → a = b
  | [], b, h => by cases b <;> first | rfl | simp [sameL] at h
  | a :: as, b, h => by
    cases b with
    | nil => simp [sameL] at h
    | cons b bs =>
      have h' : sameD a b = true ∧ sameL as bs = true := by simpa only [sameL, Bool.and_eq_true] using h
      rw [sameD_eq a b h'.1, sameL_eq as bs h'.2]
end
/-- whole numbers with few signs -/
def fewI (i : Int) : Bool := decide (0 ≤ i ∧ i < 100) || decide (i = 5000)
mutual
def tinyD : D → Bool
  | .none | .str _ | .bool _ => true
  | .int i => fewI i
  | .list xs | .tuple xs => tinyL xs
  | .dict _ => true
def tinyL : List D → Bool
  | [] => true
  | x :: xs => tinyD x && tinyL xs
end
theorem few_short : ∀ i : Int, fewI i = true → (PyData.shown (.int i)).length ≤ 13 := by
  have a : ∀ n : Fin 100, (PyData.shown (.int (n.val : Int))).length ≤ 13 := by decide +kernel
  have b : (PyData.shown (.int 5000)).length ≤ 13 := by decide +kernel
  intro i h
  (rcases Bool.or_eq_true_iff.mp h with h | h)
  · have z := of_decide_eq_true h
    have := a ⟨i.toNat, by omega⟩
    have e : ((⟨i.toNat, by omega⟩ : Fin 100).val : Int) = i := by show ((i.toNat : Nat) : Int) = i; omega
    rw [e] at this
    exact this
  · rw [of_decide_eq_true h]; exact b
mutual
theorem tiny_short : ∀ d : D, tinyD d = true → d.intsShort 13 = true
  | .none, _ => by simp [PyData.intsShort]
  | .bool _, _ => by simp [PyData.intsShort]
  | .str _, _ => by simp [PyData.intsShort]
  | .dict _, _ => by simp [PyData.intsShort]
  | .int i, h => by
    have z := few_short i (by simpa only [tinyD] using h)
    simpa only [PyData.intsShort, decide_eq_true_eq] using z
  | .list xs, h => by
    have z := tinyL_short xs (by simpa only [tinyD] using h)
    simpa only [PyData.intsShort] using z
  | .tuple xs, h => by
    have z := tinyL_short xs (by simpa only [tinyD] using h)
    simpa only [PyData.intsShort] using z
theorem tinyL_short : ∀ ds : List D, tinyL ds = true → PyData.intsShortAll 13 ds = true
  | [], _ => by simp [PyData.intsShortAll]
  | d :: ds, h => by
    have h' : tinyD d = true ∧ tinyL ds = true := by simpa only [tinyL, Bool.and_eq_true] using h
    (simp only [PyData.intsShortAll, Bool.and_eq_true])
    exact ⟨tiny_short d h'.1, tinyL_short ds h'.2⟩
end
def okRep (a : D) : Bool := match a with
  | .int i => decide (i.natAbs.log2
          < 1920)
  | .list xs => okSeq (.list xs)
  | .tuple xs => okSeq (.tuple xs)
  | _ => false
where okSeq (a : D) : Bool := a.plain && a.showable && decide (a.depth ≤ 50) && PyData.layable0 a && tinyD a
def F_alike : Fn := fun β as => match as with
  | [.dat a, .dat b] => if okRep a && sameD a b then some (β, .ok (.dat (.bool true))) else none
  | _ => none
def mAlike : M Fl := mRet (mAndV (mBin cEq (mUn dRep (mVar 0)) (mUn dRep (mVar 1))) (mBin cEq (mVar 0) (mVar 1)))
theorem rep_ok {a : D} (h : okRep a = true) : ∃ z, dRep a = some (.dat (.str z)) ∧ dEqB a a = some true := by
  have seq : ∀ a : D, okRep.okSeq a = true → a.plain = true ∧ a.showable = true ∧ a.depth ≤ 50 ∧ a.shown.length ≤ sizeLine := fun a h => by
    unfold okRep.okSeq at h
    (simp only [Bool.and_eq_true, decide_eq_true_eq] at h)
    obtain ⟨⟨⟨⟨h1, h2⟩, h3⟩, h4⟩, h5⟩ := h
    have := shown_le13 h4 (tiny_short a h5)
    exact ⟨h1, h2, h3, by rw [sizeLine_eq]; omega⟩
  cases a with
  | int i =>
    have z : i.natAbs.log2 < 1920 := by simpa [okRep] using h
    exact ⟨_, if_pos z, by unfold dEqB; simp⟩
  | list xs =>
    obtain ⟨h1, h2, h3, h4⟩ := seq (.list xs) h
    refine ⟨(PyData.list xs).shown, ?_, ?_⟩
    · unfold dRep; simp only [h1, h2, h3, h4, decide_true, Bool.and_self, if_true]
    · unfold dEqB okD; simp only [h1, h3, decide_true, Bool.and_self, if_true, PySem.SeqAt.eqv_refl_plain _ h1]
  | tuple xs =>
    obtain ⟨h1, h2, h3, h4⟩ := seq (.tuple xs) h
    refine ⟨(PyData.tuple xs).shown, ?_, ?_⟩
    · unfold dRep; simp only [h1, h2, h3, h4, decide_true, Bool.and_self, if_true]
    · unfold dEqB okD; simp only [h1, h3, decide_true, Bool.and_self, if_true, PySem.SeqAt.eqv_refl_plain _ h1]
  | _ => cases h
theorem hf_alike (m : M Fl) (h : m = mAlike) (β : Bag) (as : List Ar) (r : Bag × Except Exn Rs) (hl : as.length = 2) (e : F_alike β as = some r) : runDef 2 m β as = some r := by
  subst h
  unfold F_alike at e
  split at e
  · rename_i a b
    split at e
    · rename_i q
      cases e
      rw [Bool.and_eq_true] at q
      obtain rfl := sameD_eq a b q.2
      obtain ⟨z, h1, h2⟩ := rep_ok q.1
      have e1 : ∀ s : S, (mUn dRep (mVar 0)) s = (M.bind (mVar 0) fun r => M.bind (peek r) fun d => M.bind (M.lift (dRep d)) fun r => M.pure r.rv) s := fun _ => rfl
      have st : ∀ s : S, s = ⟨begin 2 [.dat a, .dat a], β⟩ → mAlike s = some (s, .ok (.rt (.dat (.bool true)))) := by
        rintro _ rfl
        have v0 : mVar 0 ⟨begin 2 [.dat a, .dat a], β⟩ = some (⟨begin 2 [.dat a, .dat a], β⟩, .ok (.dat a)) := rfl
        have v1 : mVar 1 ⟨begin 2 [.dat a, .dat a], β⟩ = some (⟨begin 2 [.dat a, .dat a], β⟩, .ok (.dat a)) := rfl
        have pk : ∀ (d : D) (s : S), peek (.dat d) s = some (s, .ok d) := fun _ _ => rfl
        have u0 : mUn dRep (mVar 0) ⟨begin 2 [.dat a, .dat a], β⟩ = some (⟨begin 2 [.dat a, .dat a], β⟩, .ok (.dat (.str z))) := by
          unfold mUn M.bind; simp only [v0, pk, h1, M.lift, M.pure, Rs.rv, Option.map_some]
        have u1 : mUn dRep (mVar 1) ⟨begin 2 [.dat a, .dat a], β⟩ = some (⟨begin 2 [.dat a, .dat a], β⟩, .ok (.dat (.str z))) := by
          unfold mUn M.bind; simp only [v1, pk, h1, M.lift, M.pure, Rs.rv, Option.map_some]
        have sd : ∀ d : D, settle (.dat d) = .dat d := fun _ => rfl
        have c1 : mBin cEq (mUn dRep (mVar 0)) (mUn dRep (mVar 1)) ⟨begin 2 [.dat a, .dat a], β⟩ = some (⟨begin 2 [.dat a, .dat a], β⟩, .ok (.dat (.bool true))) := by
          unfold mBin M.bind; simp only [u0, u1, sd, pk, cEq, dEqB, M.lift, M.pure, Rs.rv, Option.map_some, decide_true]
        have c2 : mBin cEq (mVar 0) (mVar 1) ⟨begin 2 [.dat a, .dat a], β⟩ = some (⟨begin 2 [.dat a, .dat a], β⟩, .ok (.dat (.bool true))) := by
          unfold mBin M.bind; simp only [v0, v1, sd, pk, cEq, h2, M.lift, M.pure, Rs.rv, Option.map_some]
        unfold mAlike mRet mAndV M.bind
        simp only [c1, c2, M.pure]
      unfold runDef
      rw [st _ rfl]
      rfl
    · cases e
  · cases e
end Pu
/-! Pu20: insert, all, dicts written out and asked, dict comprehensions. -/
namespace Pu
open PySem PySem.Spec PyProof.Rows L2
/-! ### x.insert(i, e) -/
def mInsert (i : Nat) (mi m : M Rv) : M Rv := M.bind (isOwn i) fun _ => M.bind mi fun r => match r with
  | .dat (.int k) => M.bind m fun r => M.bind (retain r) fun d => setOwn i fun ds => if ds.length < sizeLine ∧ 0 ≤ k ∧ k < 2 ^ 63 then some (ds.take k.toNat ++ [d] ++ ds.drop k.toNat, .none) else none
  | _ => M.stuck
abbrev rInsert : V → List V → Hp → VK → Prop := fun x vs H Q => ∃ (l : Addr) (xs : List V) (i : Int) (y : V), x = .ref l ∧ vs = [.int i, y] ∧ H l = some (.lst xs) ∧ xs.length < sizeLine ∧ 0 ≤ i ∧ i < 2 ^ 63 ∧
    Q .non (upd H l (.lst (xs.take i.toNat ++ [y] ++ xs.drop i.toNat)))
section
variable {X : Cx} {E : WX} {i : Nat} {m mi : M Rv}
theorem ev_insert {c : Expr} (h : PE X c (tBM X.K "list" rInsert (tVar i) (tCons (tM X.K X.mg E mi) (tCons (tM X.K X.mg E m) tNil)))) : EV X E c (mInsert i mi m) :=
  PE.conv h fun σ H Q q => by
    obtain ⟨ba, O, Hf, s, R0, F⟩ := q
    obtain ⟨F1, ds0, a, h1, h2, vs0, h3, _⟩ := isOwn_ok R0 F.bind
    refine ⟨_, h2, ty_own h3, ba, O, Hf, s, R0, F1.bind.imp (fun r s2 F2 v H2 Hf2 R2 e2 ok2 => ?_) fun x s' q => q⟩
    cases r with
    | dat d =>
      cases d with
      | int k =>
        have hv : v = .int k := rp_int (K := X.K) (Hf := Hf2) ok2
        refine ⟨ba, O, Hf2, s2, R2, F2.bind.imp (fun r3 s3 F3 v3 H3 Hf3 R3 e3 ok3 => ?_) fun x s' q => ExW.mono e2 q⟩
        obtain ⟨d, s4, Hf4, F4, e4, R4, p4⟩ := retain_ok R3 ok3 F3.bind
        obtain ⟨ds, ds', r, k1, k2, F5⟩ := setOwn_inv F4
        obtain ⟨b, eb, vs, k3, k4, k5, k6, k7⟩ := R4.slot i _ _ k1 h2
        cases eb
        by_cases hl : ds.length < sizeLine ∧ 0 ≤ k ∧ k < 2 ^ 63
        · simp only [if_pos hl, Option.some.injEq, Prod.mk.injEq] at k2
          obtain ⟨rfl, rfl⟩ := k2
          refine ⟨a, vs, k, v3, rfl, by rw [hv], k3, by rw [k7.length]; exact hl.1, hl.2.1, hl.2.2, ?_⟩
          exact F5 .non _ Hf4 (R4.write k1 h2 (((k7.take _).append (RpL.cons p4 RpL.nil)).append (k7.drop _))) (Same.trans e2 (Same.trans e3 e4)) (show Rp X.K Hf4 .none .non by simp only [Rp])
        · simp only [if_neg hl] at k2
          cases k2
      | _ => exact F2.elim
    | _ => exact F2.elim
end
/-! ### all -/
def boolsD : List D → Option (List Bool)
  | [] => some []
  | .bool b :: ds => (boolsD ds).map (b :: ·)
  | _ => none
theorem bools_rp {K : PySem.W.Frag} {H : Hp} : ∀ {ds : List D} {bs : List Bool} {vs : List V}, boolsD ds = some bs → RpL K H ds vs → vs = bs.map V.bl
  | [], _, _, e, h => by
    cases e
    rw [h.nil_inv]; rfl
  | d :: ds, bs, vs, e, h => by
    obtain ⟨v, t, rfl, h1, h2⟩ := h.cons_inv
    cases d with
    | bool b =>
      obtain ⟨bs', e1, e2⟩ := Option.map_eq_some_iff.mp (show (boolsD ds).map (b :: ·) = some bs from e)
      subst e2
      rw [rp_bl h1, bools_rp e1 h2]; rfl
    | _ => cases e
def dAll : D → Option Rs
  | .list ds => (boolsD ds).map fun bs => .dat (.bool (bs.all id))
  | _ => none
theorem o1_all {X : Cx} : Op1 X.K (fun v => rAll X.K [v]) dAll := by
  intro Hf H d x res Q e b er q
  cases d with
  | list ds =>
    obtain ⟨bs, e1, rfl⟩ := Option.map_eq_some_iff.mp (show (boolsD ds).map _ = some res from er)
    obtain ⟨a, vs, rfl, h1, h2⟩ := brp_list e b
    refine ⟨a, bs, rfl, by rw [← bools_rp e1 h2]; exact h1, q _ _ (.old bl_rp)⟩
  | _ => cases er
/-! ### dicts by place -/
def lookD (kvs : List (D × D)) (k : Key) : Option D := (kvs.find? fun kv => decide (keyD kv.1 = some k)).map (·.2)
theorem lookD_rp {K : PySem.W.Frag} {H : Hp} {k : Key} : ∀ {kvs : List (D × D)} {ws : List (Key × V)} {d : D}, RpK K H kvs ws → lookD kvs k = some d → ∃ v, valV ws k = some v ∧ Rp K H d v
  | [], _, _, _, e => by cases e
  | (a, b) :: r, ws, d, h, e => by
    simp only [RpK] at h
    obtain ⟨kk, v, t, rfl, h1, h2, h3⟩ := h
    unfold lookD at e
    rw [List.find?_cons] at e
    by_cases hk : kk = k
    · subst hk
      have z : decide (keyD (a, b).1 = some kk) = true := decide_eq_true h1
      rw [z] at e
      cases e
      exact ⟨v, valV_pos rfl, h2⟩
    · have z : decide (keyD (a, b).1 = some k) = false := decide_eq_false fun w => hk (Option.some.inj (h1.symm.trans w))
      rw [z] at e
      obtain ⟨v', e1, e2⟩ := lookD_rp h3 e
      exact ⟨v', by rw [valV_neg (by exact hk)]; exact e1, e2⟩
/-- d[k] of a dict -/
def dIxK (a b : D) : Option Rs := match a with
  | .dict kvs => (keyD b).bind fun k => (lookD kvs k).map .dat
  | _ => none
abbrev rIxDK : R2 := fun x y H Q => ∃ a v, x = .ref a ∧ DGet H a y (some v) ∧ Q v H
theorem key_rp {K : PySem.W.Frag} {H : Hp} {d : D} {v : V} {k : Key} (h : Rp K H d v) (e : keyD d = some k) : v = kV k := by
  cases d with
  | int i => cases e; exact rp_int h
  | str x => cases e; exact rp_str h
  | _ => cases e
theorem keyB_rp {K : PySem.W.Frag} {Hf H : Hp} {d : D} {v : V} {k : Key} (h : BRp K Hf H d v) (e : keyD d = some k) : v = kV k := by
  cases d with
  | int i => cases e; exact brp_int h
  | str x => cases e; exact brp_str h
  | _ => cases e
theorem op2_ixK {K : PySem.W.Frag} : Op2 K rIxDK dIxK := by
  intro Hf H d1 d2 x y res Q e b1 b2 er q
  cases d1 with
  | dict kvs =>
    obtain ⟨k, e1, e2⟩ := Option.bind_eq_some_iff.mp (show (keyD d2).bind _ = some res from er)
    obtain ⟨d, e3, rfl⟩ := Option.map_eq_some_iff.mp e2
    obtain ⟨a, ws, rfl, h1, h2⟩ := brp_dict e b1
    obtain ⟨v, e4, h3⟩ := lookD_rp h2 e3
    obtain rfl := keyB_rp b2 e1
    exact ⟨a, v, rfl, by rw [← e4]; exact DGet.k h1, q _ _ (.old h3)⟩
  | _ => cases er
section
variable {X : Cx} {E : WX} {a b : Expr} {m1 m2 : M Rv} {pos : Pos}
theorem ev_ixK (hu : X.A.units + 64 < cLine) (ha : EV X E a m1) (hb : EV X E b m2) (hs : NoSl b) : EV X E (.Subscript a b pos) (mBin dIxK m1 m2) :=
  PE.conv (pe_dget (by omega) ha hb hs) fun σ H Q q => bin_conv op2_ixK q
end
/-! ### a dict written out -/
def mPairs : List (Str × M Rv) → M (List (D × D))
  | [] => M.pure []
  | p :: r => M.bind p.2 fun x => M.bind (retain x) fun d => M.bind (mPairs r) fun ps => M.pure ((.str p.1, d) :: ps)
def mDict (ps : List (Str × M Rv)) : M Rv := M.bind (mPairs ps) fun kvs => M.pure (.dat (.dict kvs))
def prT (K : PySem.W.Frag) (mg : Str → Option Value) (E : WX) (ps : List (Str × M Rv)) : List (TE × TE) := ps.map fun p => (tC (.str p.1), tM K mg E p.2)
theorem pairs_conv {K : PySem.W.Frag} {mg : Str → Option Value} {E : WX} {ba : Option Addr} {O : Hp} {σ : St} : ∀ (ps : List (Str × M Rv)) (H Hf : Hp) (s : S) (Q : List (V × V) → Hp → Prop), Rep K ba O Hf H σ s →
    Fits (mPairs ps s) (fun kvs s' => ∀ H' Hf' ws, Rep K ba O Hf' H' σ s' → Same Hf Hf' → RpK K Hf' kvs ws → ws.map (·.1) = ps.map (fun p => (.inr p.1 : Key)) → Q (ws.map fun kv => (kV kv.1, kv.2)) H')
      (fun x s' => ∀ H' Hf' c d, Rep K ba O Hf' H' σ s' → Same Hf Hf' → ExOk K mg Hf' H' x c d → E c d σ H') → tPairs (prT K mg E ps) σ H Q
  | [], H, Hf, s, Q, R, F => F H Hf [] R (Same.refl _) (by simp only [RpK]) rfl
  | p :: r, H, Hf, s, Q, R, F => by
    refine ⟨ba, O, Hf, s, R, F.bind.imp (fun x s1 F1 v H1 Hf1 R1 e1 ok1 => ?_) fun x s' q => q⟩
    obtain ⟨d, s2, Hf2, F2, e2, R2, p2⟩ := retain_ok R1 ok1 F1.bind
    have e12 := Same.trans e1 e2
    refine pairs_conv r H1 Hf2 s2 _ R2 (F2.bind.imp (fun kvs s3 F3 H3 Hf3 ws R3 e3 rk hk => ?_) fun x s' q H' Hf' c d R' e' ex => q H' Hf' c d R' (Same.trans e12 e') ex)
    exact F3 H3 Hf3 ((.inr p.1, v) :: ws) R3 (Same.trans e12 e3) (by simp only [RpK]; exact ⟨_, _, _, rfl, rfl, Rp.mono e3 _ _ p2, rk⟩) (by simp only [List.map_cons, hk])
theorem merge_new : ∀ (more acc : List (Key × V)), ((acc ++ more).map (·.1)).Nodup → mergeK acc more = acc ++ more
  | [], acc, _ => by rw [List.append_nil]; rfl
  | p :: r, acc, h => by
    have h0 : valV acc p.1 = none := by
      unfold valV
      rw [Option.map_eq_none_iff, List.find?_eq_none]
      intro q hq
      rw [List.map_append, List.map_cons, List.nodup_append] at h
      have := h.2.2 q.1 (List.mem_map_of_mem hq) p.1 List.mem_cons_self
      simpa using this
    have e : mergeK acc (p :: r) = mergeK (acc ++ [p]) r := by
      show mergeK (putK acc p.1 p.2) r = _
      rw [putK_new _ h0]
    rw [e, merge_new r (acc ++ [p]) (by rw [List.append_assoc]; exact h), List.append_assoc]; rfl
/-- an object of the callers becomes data -/
theorem Rep.giveD {K : PySem.W.Frag} {ba : Option Addr} {O Hf H : Hp} {σ : St} {s : S} {p : Addr} {o o' : HO} (R : Rep K ba (upd O p o) Hf H σ s) (hO : O p = none) (hb : ba ≠ some p) (hn : NoT o := by intro ps z; cases z) (hq : NoC p o := by intro q z; unfold LamX.CodeO at z; cases z) (hn2 : NoT o' := by intro ps z; cases z) (hm : ¬ IsMk o' := by rintro ⟨_, z⟩; cases z) :
    Same Hf (upd Hf p o') ∧ Rep K ba O (upd Hf p o') (upd H p o') σ s := by
  have R1 := (R.change (o' := o') hn hq hn2)
  have hf : Hf p = none := by
    cases q : Hf p with
    | none => rfl
    | some x =>
      have z := R.reg.dis p (by rw [q]; simp)
      rw [upd_same] at z; cases z
  have R2 : Rep K ba O Hf (upd H p o') σ s := R1.less (Same.updN hO)
  refine ⟨Same.updN hf, ⟨R2.reg.take upd_same hf hO hb hn2 hm, R2.len, fun i sl x e1 e2 => ?_, R2.uni⟩⟩
  have q := R1.slot i sl x e1 e2
  cases sl with
  | no => trivial
  | dat d => obtain ⟨w, q1, q2⟩ := q; exact ⟨w, q1, Rp.mono (Same.updN hf) _ _ q2⟩
  | own es =>
    obtain ⟨b, rfl, ws, k1, k2, k3, k4, k5⟩ := q
    have nb : b ≠ p := fun z => by rw [z, upd_same] at k3; cases k3
    refine ⟨b, rfl, ws, k1, by rw [upd_ne nb]; exact k2, ?_, k4, RpL.mono (Same.updN hf) _ _ k5⟩
    rw [upd_ne nb] at k3; exact k3
  | bag => exact q
  | ob n => obtain ⟨b, q1, q2⟩ := q; exact ⟨b, q1, Same.updN hf _ _ q2⟩
section
variable {X : Cx} {E : WX} {pos : Pos}
abbrev ED (X : Cx) (E : WX) (pos : Pos) (keys : List (Option Expr)) (values : List Expr) (ps : List (Str × M Rv)) : Prop := PPs X pos keys values (prT X.K X.mg E ps)
theorem ed_nil : ED X E pos [] [] [] := pps_nil
theorem ed_cons {k : Str} {j : Nat} {kp : Pos} {v : Expr} {ks : List (Option Expr)} {vs : List Expr} {m : M Rv} {ps : List (Str × M Rv)} (hv : EV X E v m) (hr : ED X E pos ks vs ps) : ED X E pos (some (.Constant (.str k) j kp) :: ks) (v :: vs) ((k, m) :: ps) :=
  pps_cons pe_str hv hr
theorem ev_dict {keys : List (Option Expr)} {values : List Expr} {ps : List (Str × M Rv)} (h : ED X E pos keys values ps) (hall : keys.all (·.isSome) = true := by rfl) (hl : keys.length = values.length := by rfl) (h0 : keys ≠ [] := by simp) (h15 : ps.length ≤ 15 := by decide) (hk : keys.length = ps.length := by rfl)
    (hnd : (ps.map fun p => (.inr p.1 : Key)).Nodup := by decide) : EV X E (.Dict keys values pos) (mDict ps) :=
  PE.conv (pe_disp h hall hl h0 (by rw [hk]; exact h15)) fun σ H Q q => by
    obtain ⟨ba, O, Hf, s, R0, F⟩ := q
    intro p hp
    obtain ⟨f1, f2, f3⟩ := R0.reg.free hp
    have R1 : Rep X.K ba (upd O p (.dK [])) Hf (upd H p (.dK [])) σ s := by
      refine (R0.grow (o := .dK []) hp).outer upd_same f1 f3 fun i es e2 e3 => ?_
      obtain ⟨x, e5, b, rfl, ws, j1, _⟩ := R0.at e2
      rw [e3] at e5
      cases e5
      rw [hp] at j1
      cases j1
    refine pairs_conv ps _ Hf s _ R1 (F.bind.imp (fun kvs s1 F1 H1 Hf1 ws R2 e1 rk hk1 => ?_) fun x s' q H' Hf' c d R' e' ex => q H' Hf' c d (R'.less (Same.updN f2)) e' ex)
    have lw : ws.length = ps.length := by
      have := congrArg List.length hk1
      simpa using this
    refine ⟨R2.reg.out p _ upd_same, ws, rfl, by rw [lw]; exact h15, ?_⟩
    obtain ⟨e3, R3⟩ := R2.giveD (o' := .dK ws) f2 f3
    rw [merge_new ws [] (by rw [List.nil_append, hk1]; exact hnd), List.nil_append]
    refine F1 _ _ _ R3 (Same.trans e1 e3) ?_
    show Rp X.K _ (.dict kvs) (.ref p)
    simp only [Rp]
    exact ⟨p, _, rfl, upd_same, RpK.mono e3 _ _ rk⟩
end
end Pu
/-! Pu21: tuple * int for any small int; bool of a tuple; x[::-1]; written numbers below 0. -/
namespace Pu
open PySem PySem.Spec PyProof.Rows L2
theorem tuple_mulSame (l : Addr) (items : Array Value) (n : Nat) (dd : Option Addr) (sl : Array (Option Value)) (x : Int) (u : Tok) (c0 : (decide (x < -(2 ^ 63)) || decide (x ≥ 2 ^ 63)) = false) (c1 : (items.isEmpty || x == 1) = true) :
    Meets (Builtin.«tuple.__mul__» ⟨[.ref l, .int x u], []⟩) (fun _ R s => s.heap.get? l = some { cls := .type "tuple", dict := dd, data := .seq items n, slots := sl } ∧ R (.ok (.ret (Value.ref l))) s) :=
  .of_wp fun prg0 w A R s h => by
    (obtain ⟨hp, g, d, tk, os⟩ := s)
    obtain ⟨hl, h⟩ := h
    have f1 := AutoSeq1.idx_int
    (wp_walk using wpAny_loadPart' hl)
    repeat (first
      | (refine
              wpAny_ite_false (decide_eq_false (by rw [c0]; exact Bool.false_ne_true)) ?_; wp_walk using wpAny_loadPart' hl)
      | (refine wpAny_ite_true (decide_eq_true c1) ?_; wp_walk using wpAny_loadPart' hl))
    exact ⟨_, rfl, h⟩
theorem tuple_mulZero (l : Addr) (items : Array Value) (n : Nat) (dd : Option Addr) (sl : Array (Option Value)) (x : Int) (u : Tok) (c0 : (decide (x < -(2 ^ 63)) || decide (x ≥ 2 ^ 63)) = false) (c1 : (items.isEmpty || x == 1) = false) (c2 : (decide (x ≤ 0) || items.isEmpty) = true) :
    Meets (Builtin.«tuple.__mul__»
            ⟨[.ref l, .int x u], []⟩) (fun _ R s => s.heap.get? l = some { cls := .type "tuple", dict := dd, data := .seq items n, slots := sl } ∧
      R (.ok (.ret (Value.ref s.heap.objs.size))) { s with heap := s.heap.push { cls := Value.type "tuple", data := Data.seq #[] }, toks := s.toks }) :=
  .of_wp fun prg0 w A R s h => by
    (obtain ⟨hp, g, d, tk, os⟩ := s)
    obtain ⟨hl, h⟩ := h
    have f1 := AutoSeq1.idx_int
    (wp_walk using wpAny_loadPart' hl)
    repeat (first
      | (refine
              wpAny_ite_false (decide_eq_false (by rw [c0]; exact Bool.false_ne_true)) ?_; wp_walk using wpAny_loadPart' hl)
      | (refine
              wpAny_ite_false (decide_eq_false (by rw [c1]; exact Bool.false_ne_true)) ?_; wp_walk using wpAny_loadPart' hl)
      | (refine wpAny_ite_true (decide_eq_true c2) ?_; wp_walk using wpAny_loadPart' hl))
    exact ⟨_, rfl, h⟩
theorem meets_bool_tup (l : Addr) (items : Array Value) (hfit : (items.size : Int) < 2 ^ 63) :
    Meets (Builtin.«bool.__new__» ⟨[.type "bool", .ref l], []⟩) (fun _ R s => IsTup s.heap l items ∧ R (.ok (.ret (.bool (!items.isEmpty)))) { s with toks := s.toks + 1 + 1 }) :=
  Meets.of_wp fun prg0 w A R s hs => by
    obtain ⟨hl, hs⟩ := hs
    (obtain ⟨hp, g, d, tk, os⟩ := s)
    have f1 := F.conv_sub_bool
    repeat (any_goals (first | assumption | (with_reducible refine truthy_tuple hl hfit ?_) | wp_step))
    (all_goals first | exact ⟨_, rfl, hs⟩ | exact hs | skip)
/-- the two ways in which no tuple of two turns is made -/
def rRepS (K : PySem.W.Frag) : R2 := fun x y H Q => ∃ l k xs, x = .ref l ∧ y = .int k ∧ SqT K H l xs ∧ 0 ≤ k ∧ k ≤ 1000 ∧ (((xs = [] ∨ k = 1) ∧ Q (.ref l) H) ∨ (xs ≠ [] ∧ k = 0 ∧ ∀ p, H p = none → Q (.ref p) (upd H p (.tup []))))
section
variable {X : Cx}
theorem op_repS : OpR X (binaryOp .Mult) (rRepS X.K) := by
  (intro pins s σ H x y v u Q I rx ry h)
  obtain ⟨l, k, xs, rfl, rfl, hT, h1, h2, q⟩ := h
  cases rx
  obtain ⟨t, rfl⟩ := ry
  (obtain ⟨its, r, ⟨⟨cls, dd, data, sl⟩, ho, hc, n, hd⟩, hs⟩ := I.tuple hT)
  simp only at hc hd
  subst hc hd
  (have hle : its.length = xs.length := r.length.symm)
  have c0 : (decide
          (k < -(2 ^ 63)) || decide (k ≥ 2 ^ 63)) = false := by
    (rw [decide_eq_false (by omega), decide_eq_false (by omega)] <;> rfl)
  have hi : its.toArray.isEmpty = xs.isEmpty := by
    cases its with
    | nil => cases xs with
      | nil => rfl
      | cons a b => simp at hle
    | cons a b => cases xs with
      | nil => simp at hle
      | cons a b => rfl
  rcases q with ⟨ha, q⟩ | ⟨hn, rfl, q⟩
  · have c1 : (its.toArray.isEmpty || k == 1) = true := by
      rw [hi]
      rcases ha with rfl | rfl
      · rfl
      · simp
    refine wpAny_binaryOp_repeat_ref (T
            := "tuple") (U := "int") (by decide) ⟨_, ho, rfl⟩ (fun s' => typeIs_int s' k t) noFill_tuple_mul F.fills_int_mul F.slot_int_rmul repeat_tuple F.slot_int_index.lookup
      (call_meets
              F.slot_int_rmul (typeIs_int s k t) F.entry_int_rmul (F.args_int_rmul_2 _ _) (int_rmul_tuple k t l its.toArray n dd sl)
        ⟨ho, rfl, ⟨_, ho, rfl⟩, call_meets F.slot_tuple_mul ⟨_, ho, rfl⟩ F.entry_tuple_mul (F.args_tuple_mul_2 _ _) (tuple_mulSame l its.toArray n dd sl k t c0 c1) ⟨ho, ?_⟩⟩)
    exact ⟨.ref l, _, I, rfl, q⟩
  · have c1 : (its.toArray.isEmpty || (0 : Int) == 1) = false := by
      rw [hi]
      cases xs with
      | nil => exact absurd rfl hn
      | cons a b => rfl
    have c2 : (decide ((0 : Int) ≤ 0) || its.toArray.isEmpty) = true := by simp
    refine wpAny_binaryOp_repeat_ref (T := "tuple") (U := "int") (by decide) ⟨_, ho, rfl⟩ (fun s' => typeIs_int s' 0 t) noFill_tuple_mul F.fills_int_mul F.slot_int_rmul repeat_tuple F.slot_int_index.lookup
      (call_meets F.slot_int_rmul (typeIs_int s 0 t) F.entry_int_rmul (F.args_int_rmul_2 _ _) (int_rmul_tuple 0 t l its.toArray n dd sl)
        ⟨ho, rfl, ⟨_, ho, rfl⟩, call_meets F.slot_tuple_mul ⟨_, ho, rfl⟩ F.entry_tuple_mul (F.args_tuple_mul_2 _ _) (tuple_mulZero l its.toArray n dd sl 0 t c0 c1 c2) ⟨ho, ?_⟩⟩)
    refine ⟨.ref s.heap.objs.size, _, I.laid (t' := s.toks) (o := .tup []) (fun b ob q => Heap.get?_push_of_some _ q) (Nat.le_refl _) ?_, rfl, q _ (I.hok.fresh (Nat.le_refl _))⟩
    exact ⟨Nat.zero_le _, [], .nil, IsTup.new _ _⟩
end
def dMulT (a b : D) : Option Rs := match a, b with
  | .int i, .int j => dMul (.int i) (.int j)
  | .tuple ds, .int k => if 0 ≤ k ∧ k ≤ 1000 ∧ ds.length ≤ 1000 then some (.dat (.tuple (List.replicate k.toNat ds).flatten)) else none
  | _, _ => none
abbrev rMulT (K : PySem.W.Frag) : R2 := fun x y H Q => rI CMul (fun i j => .int (i * j)) x y H Q ∨ rRepT K x y H Q ∨ rRepS K x y H Q
theorem op_mulT {X : Cx} : OpR X (binaryOp .Mult) (rMulT X.K) := OpR.or op_mul (OpR.or op_repT op_repS)
theorem RpL.flat {K : PySem.W.Frag} {H : Hp} {ds : List D} {vs : List V} (h : RpL K H ds vs) : ∀ n : Nat, RpL K H (List.replicate n ds).flatten (List.replicate n vs).flatten
  | 0 => RpL.nil
  | n + 1 => by
    (rw [List.replicate_succ, List.replicate_succ, List.flatten_cons, List.flatten_cons])
    exact h.append (RpL.flat h n)
theorem op2_mulT {K : PySem.W.Frag} : Op2 K (rMulT K) dMulT := by
  intro Hf H d1 d2 x y res Q e b1 b2 er q
  unfold dMulT at er
  split at er
  · exact .inl (op2_mul Hf H _ _ x y res Q e b1 b2 er q)
  · rename_i ds k
    by_cases hc : 0 ≤ k ∧ k ≤ 1000 ∧ ds.length ≤ 1000
    · rw [if_pos hc] at er
      cases er
      obtain ⟨a, vs, rfl, h1, h2⟩ := brp_tup e b1
      obtain rfl := brp_int b2
      have hl := h2.length
      have put : ∀ us, RpL K Hf (List.replicate k.toNat ds).flatten us → ∀ p, H p = none → Q (.ref p) (upd H p (.tup us)) := fun us hu p hp => q _ _ (.tup hp hu)
      by_cases h0 : vs = []
      · subst h0
        have e0 : ds = [] := List.eq_nil_of_length_eq_zero (by rw [← hl]; rfl)
        subst e0
        have ef : (List.replicate k.toNat ([] : List D)).flatten = [] := by
          rw [List.flatten_eq_nil_iff]
          intro l hl
          exact (List.mem_replicate.mp hl).2
        refine .inr (.inr ⟨a, k, [], rfl, rfl, h1, hc.1, hc.2.1, .inl ⟨.inl rfl, q _ _ (.old ?_)⟩⟩)
        rw [ef]
        simp only [Rp]
        rcases b1 with b1 | ⟨_, _, _, _, _, z, _⟩ | ⟨_, _, _, _, _, z, _⟩
        · simpa only [Rp] using b1
        · cases z
        · cases z
      · by_cases k1 : k = 1
        · subst k1
          refine .inr (.inr ⟨a, 1, vs, rfl, rfl, h1, by omega, by omega, .inl ⟨.inr rfl, q _ _ (.old ?_)⟩⟩)
          have ef : (List.replicate (1 : Int).toNat ds).flatten = ds := by simp
          rw [ef]
          rcases b1 with b1 | ⟨_, _, _, _, _, z, _⟩ | ⟨_, _, _, _, _, z, _⟩
          · exact b1
          · cases z
          · cases z
        · by_cases k0 : k = 0
          · subst k0
            exact .inr (.inr ⟨a, 0, vs, rfl, rfl, h1, by omega, by omega, .inr ⟨h0, rfl, put [] (by simpa using RpL.nil)⟩⟩)
          · exact .inr (.inl ⟨a, k, vs, rfl, rfl, h1, h0, by omega, hc.2.1, by rw [hl]; exact hc.2.2, put _ (h2.flat _)⟩)
    · rw [if_neg hc] at er
      cases er
  · cases er
/-! ### bool -/
def dBool : D → Option Rs
  | .int i => some (.dat (.bool (i != 0)))
  | .bool b => some (.dat (.bool b))
  | .list ds => some (.dat (.bool (!ds.isEmpty)))
  | .tuple ds => some (.dat (.bool (!ds.isEmpty)))
  | _ => none
abbrev rBoolD (K : PySem.W.Frag) : List V → Hp → VK → Prop := fun xs H Q => ((∃ i, xs = [.int i] ∧ Q (.bl (i != 0)) H) ∨ ∃ k, xs = [.bl k] ∧ Q (.bl k) H) ∨ (∃ (a : Addr) (zs : List V), xs = [.ref a] ∧ SqL K H a zs ∧ Q (.bl (!zs.isEmpty)) H) ∨ ∃ (a : Addr) (zs : List V), xs = [.ref a] ∧ SqT K H a zs ∧ Q (.bl (!zs.isEmpty)) H
theorem call_boolD {X : Cx} : CallR X (.type "bool") (rBoolD X.K) := by
  (intro pins s σ H xs us Q I r h)
  rcases h with h | h | h
  · exact call_bool1 pins s σ H xs us Q I r h
  · exact call_boolL pins s σ H xs us Q I r h
  · obtain ⟨a, zs, rfl, hq, q⟩ := h
    obtain rfl := Vals.ref1 r
    obtain ⟨its, rv, pl, hz⟩ := I.tuple hq
    have hl := line63
    have hlen := rv.length
    refine call_bool_1 (meets_bool_tup a its.toArray (by simp only [List.size_toArray]; omega)) ⟨pl, rfl, ?_⟩
    (exact ⟨.bl (!zs.isEmpty), H, I.tok _, by rw [isEmpty_of rv]; rfl, q⟩)
theorem o1_bool {X : Cx} : Op1 X.K (fun v => rBoolD X.K [v]) dBool := by
  intro Hf H d x res Q e b er q
  cases d with
  | int i =>
    cases er
    obtain rfl := brp_int b
    exact .inl (.inl ⟨i, rfl, q _ _ (.old bl_rp)⟩)
  | bool k =>
    cases er
    obtain rfl := brp_bl b
    exact .inl (.inr ⟨k, rfl, q _ _ (.old bl_rp)⟩)
  | list ds =>
    cases er
    obtain ⟨a, vs, rfl, h1, h2⟩ := brp_list e b
    exact .inr (.inl ⟨a, vs, rfl, h1, by rw [h2.empty]; exact q _ _ (.old bl_rp)⟩)
  | tuple ds =>
    cases er
    obtain ⟨a, vs, rfl, h1, h2⟩ := brp_tup e b
    exact .inr (.inr ⟨a, vs, rfl, h1, by rw [h2.empty]; exact q _ _ (.old bl_rp)⟩)
  | _ => cases er
/-! ### x[::-1] -/
theorem adjust_rev (n : Nat) : Builtin.Slice.sliceAdjust none none (-1) (n : Int) = ((n : Int) - 1, -1) := by
  (unfold Builtin.Slice.sliceAdjust)
  simp
theorem places_rev (n : Nat) : Builtin.Slice.slicePlaces ((n : Int) - 1) (-1) (-1) = n := by
  (unfold Builtin.Slice.slicePlaces)
  simp <;> omega
theorem pick_rev (xs : Array Value) : ((List.range xs.size).filterMap fun (m : Nat) => xs[(((xs.size : Int) - 1) + (m : Int) * (-1)).toNat]?).toArray = xs.toList.reverse.toArray := by
  have e : ((List.range xs.size).filterMap fun (m : Nat) => xs[(((xs.size : Int) - 1) + (m : Int) * (-1)).toNat]?) = ((List.range xs.size).map fun k => xs.size - 1 - k).filterMap (xs[·]?) := by
    rw [List.filterMap_map]
    have key : ∀ l : List Nat, (∀ m ∈ l, m < xs.size) → (l.filterMap fun (m : Nat) => xs[(((xs.size : Int) - 1) + (m : Int) * (-1)).toNat]?) = l.filterMap ((xs[·]?) ∘ fun k => xs.size - 1 - k) := by
      intro l
      induction l with
      | nil => intro _; rfl
      | cons m l ih =>
        intro h
        have hm := h m List.mem_cons_self
        have e : (((xs.size : Int) - 1) + (m : Int) * (-1)).toNat = xs.size - 1 - m := by omega
        rw [List.filterMap_cons, List.filterMap_cons, ih (fun k hk => h k (List.mem_cons_of_mem _ hk)), e]
        rfl
    exact key _ fun m hm => List.mem_range.mp hm
  rw [e, PySem.W.krv_range, List.filterMap_reverse, PySem.W.krv_all]
section
variable {prog
        : Program} {w : World} {A : Around} {E : Value → Shared → Prop} {s : Shared}
theorem applied_rev {sl : Addr} {t : Tok} {n : Nat} {Q : Int × Int × Nat → Shared → Prop} (hs : s.heap.IsSliceOf sl .none .none (.int (-1) t)) (h : Q ((n : Int) - 1, -1, n) s) : wpAny (model prog w) A (Builtin.Slice.sliceApplied (.ref sl) (pure (n : Int))) Q E s := by
  (obtain ⟨os, hos, hcs, hds⟩ := id hs)
  (unfold Builtin.Slice.sliceApplied Builtin.Slice.sliceFields)
  refine wpAny_bind (wpAny_bind (wpAny_field hos hds (x := .none) rfl (wpAny_bind (wpAny_field hos hds (x := .none) rfl (wpAny_bind (wpAny_field hos hds (x := .int (-1) t) rfl (wpAny_pure ?_)))))))
  refine wpAny_bind (slicePart_int ?_)
  show wpAny _ _ (if ((-1 : Int) == 0) = true then _ else _) _ _ s
  rw [if_neg (by decide)]
  refine wpAny_bind (slicePart_none (wpAny_bind (slicePart_none (wpAny_bind (wpAny_pure ?_)))))
  show wpAny _ _ (match Builtin.Slice.sliceAdjust none none (-1) (n : Int) with | (lo, hi) => pure (lo, (-1 : Int), Builtin.Slice.slicePlaces lo hi (-1))) _ _ s
  rw [adjust_rev n]
  show wpAny _ _ (pure ((n : Int) - 1, (-1 : Int), Builtin.Slice.slicePlaces ((n : Int) - 1) (-1) (-1))) _ _ s
  rw [places_rev]
  exact wpAny_pure h
theorem getItem_tuple_rev {t sl : Addr} {items : Array Value} {k : Tok} {Q : Value → Shared → Prop} (ht : IsTup s.heap t items) (hs : s.heap.IsSliceOf sl .none .none (.int (-1) k))
    (h : Q (.ref s.heap.objs.size) { s with heap := s.heap.push { cls := .type "tuple", data := .seq items.toList.reverse.toArray } }) (hsz : items.size ≤ sizeLine) : wpAny (model prog w) A (getItem (.ref t) (.ref sl)) Q E s := by
  have htake : sizeOk (.seq items.toList.reverse.toArray) := by
    show items.toList.reverse.toArray.size ≤ sizeLine
    rw [List.size_toArray, List.length_reverse, Array.length_toList]
    exact hsz
  (obtain ⟨os, hos, hcs, hds⟩ := id hs)
  (have hTs : s.TypeIs (.ref sl) "slice" := ⟨os, hos, hcs⟩)
  unfold getItem
  (try with_reducible refine wpAny_holding ?_)
  (first | refine wpAny_bind (wpAny_pure ?_) | skip)
  (refine wpAny_bind (wpAny_sequenceKey ht.typeIs (by decide) ?_))
  refine wpAny_bind (wpAny_callSpecial?_slot
          (name := Str.ofString "__getitem__") ht.typeIs PyProof.Rows.slot_tuple_getitem
    (wpAny_call_entry
            PyProof.Rows.slot_tuple_getitem ht.typeIs entry_tuple_getitem ?_ (args_tuple_getitem _ _)))
  show wpAny _ _ (Builtin.Tuple.tupleItemsOf
          (.ref t) >>= _) _ _ s
  (refine wpAny_bind (tupleItemsOf_ ht ?_))
  (refine wpAny_bind (wpAny_typeOf hTs ?_))
  rw [if_pos (by decide)]
  refine wpAny_bind (applied_rev hs ?_)
  have hno : ¬ ((((items.size : Int) - 1) == 0 && (-1 : Int) == 1 && items.size == items.size) = true) := by
    intro q
    (rw [Bool.and_eq_true, Bool.and_eq_true] at q)
    exact absurd (eq_of_beq q.1.2) (by decide)
  show wpAny _ _ (if (((items.size : Int) - 1) == 0 && (-1 : Int) == 1 && items.size == items.size) = true then _ else _) _ _ s
  rw [if_neg hno, pick_rev]
  first
    | exact wpAny_bind (m
            := Builtin.Tuple.tupleExact _) (wpAny_newObj_type (wpAny_pure ⟨_, rfl, wpAny_pure h⟩) htake)
    | exact wpAny_bind (m
            := Builtin.Tuple.tupleExact _) (wpAny_newObj_type (wpAny_bind (wpAny_pure (wpAny_pure ⟨_, rfl, wpAny_pure h⟩))) htake)
    | exact wpAny_bind (wpAny_bind
            (m := Builtin.Tuple.tupleExact _) (wpAny_newObj_type (wpAny_pure (wpAny_pure ⟨_, rfl, wpAny_pure h⟩)) htake))
    | exact wpAny_bind (wpAny_bind
            (m := Builtin.Tuple.tupleExact _) (wpAny_newObj_type (wpAny_pure ⟨_, rfl, wpAny_pure h⟩) htake))
end
def tRevD (K : PySem.W.Frag) (te : TE) : TE := fun σ H Q => te σ H fun x H1 => ∃ a xs, x = .ref a ∧ ((SqL K H1 a xs ∧ ∀ p, H1 p = none → Q (.ref p) (upd H1 p (.lst xs.reverse))) ∨ (SqT K H1 a xs ∧ ∀ p, H1 p = none → Q (.ref p) (upd H1 p (.tup xs.reverse))))
theorem pe_revD {X : Cx} {e : Expr} {te : TE} {k : Nat} {p1 p2 p3 pos : Pos} (he : PE X e te) : PE X (.Subscript e (.Slice none none (some (.UnaryOp .USub (.Constant (.int 1) k p1) p2)) p3) pos) (tRevD X.K te) := by
  (refine ⟨fun pins s σ H Q I h => ?_⟩)
  (refine Subscript_ (thn (he.run pins s σ H _ I h) fun v s1 ⟨x, H1, I1, r1, q1⟩ => ?_))
  obtain ⟨a, xs, rfl, q1⟩ := q1
  cases r1
  (have hst : PO X (some (.UnaryOp .USub (.Constant (.int 1) k p1) p2)) (tPart (tUn (rU fun i => .int (-i)) (tC (.int 1)))) := po_some (pe_un un_neg pe_int))
  (refine wpAny_Slice (thn (po_none.run pins s1 σ H1 (fun o H2 => o = none ∧ H2 = H1) I1 ⟨rfl, rfl⟩) fun vl s2 ⟨l, H2, I2, pl, el, e2⟩ => ?_))
  subst el e2
  (refine thn (po_none.run pins s2 σ H2 (fun o H3 => o = none ∧ H3 = H2) I2 ⟨rfl, rfl⟩) fun vu s3 ⟨u, H3, I3, pu, eu, e3⟩ => ?_)
  subst eu e3
  (refine thn (hst.run pins s3 σ H3 (fun o H4 => o = some (-1) ∧ H4 = H3) I3 ⟨1, rfl, -1, rfl, rfl, rfl⟩) fun vs s4 ⟨o, H4, I4, ps, eo, e4⟩ => ?_)
  subst eo e4
  (have I5 : Inv X pins σ H4 { s4 with heap := s4.heap.push { cls := .type "slice", data := .fields #[vl, vu, vs] } } := I4.kept (t' := s4.toks) fun b ob q => Heap.get?_push_of_some _ q)
  show wpAny (model
          X.prog X.w) X.A (subscriptTail e (.Slice none none (some (.UnaryOp .USub (.Constant (.int 1) k p1) p2)) p3) (.ref a) (.ref s4.heap.objs.size)) (EP X pins σ Q) X.xe { s4 with heap := s4.heap.push { cls := .type "slice", data := .fields #[vl, vu, vs] } }
  rcases q1 with ⟨hx, q⟩ | ⟨hx, q⟩
  · obtain ⟨its, r, ht, hz⟩ := I5.list hx
    have hlen := r.length
    (refine tail_any (ops := [.ref a, .ref s4.heap.objs.size]) ht.isList.typeIs (PySem.slot_list_getitem.lookup) ?_ (by with_unfolding_all rfl))
    (refine wpAny_getItem_list_slice ht.isList (Heap.IsSliceOf.new _ vl vu vs) pl pu ps (by decide) ?_ (by rw [List.size_toArray]; omega))
    rw [PySem.W.krv_pick]
    (refine ⟨.ref _, _, I5.laid (t' := s4.toks) (o := .lst xs.reverse) (fun b ob q => Heap.get?_push_of_some _ q) (Nat.le_refl _) ?_, rfl, q _ (I5.hok.fresh (Nat.le_refl _))⟩)
    (exact ⟨by rw [List.length_reverse]; exact hz, _, 0, r.reverse, Heap.get?_push_size _ rfl⟩)
  · obtain ⟨its, r, ht, hz⟩ := I5.tuple hx
    have hlen := r.length
    cases pl
    cases pu
    cases ps with
    | int _ tk =>
      refine tail_any (ops := [.ref a, .ref s4.heap.objs.size]) ht.typeIs (PyProof.Rows.slot_tuple_getitem.lookup) ?_ (by with_unfolding_all rfl)
      refine getItem_tuple_rev ht (Heap.IsSliceOf.new ..) ?_ (by rw [List.size_toArray]; omega)
      refine ⟨.ref _, _, I5.laid (t' := s4.toks) (o := .tup xs.reverse) (fun b ob q => Heap.get?_push_of_some _ q) (Nat.le_refl _) ?_, rfl, q _ (I5.hok.fresh (Nat.le_refl _))⟩
      exact ⟨by rw [List.length_reverse]; exact hz, _, r.reverse, IsTup.new _ _⟩
def dRev : D → Option Rs
  | .list ds => some (.fresh ds.reverse)
  | .tuple ds => some (.dat (.tuple ds.reverse))
  | _ => none
theorem RpL.rev {K : PySem.W.Frag} {H : Hp} : ∀ {ds : List D} {vs : List V}, RpL K H ds vs → RpL K H ds.reverse vs.reverse
  | [], vs, h => by rw [h.nil_inv]; exact RpL.nil
  | d :: ds, vs, h => by
    obtain ⟨v, t, rfl, h1, h2⟩ := h.cons_inv
    (rw [List.reverse_cons, List.reverse_cons])
    exact (RpL.rev h2).append (RpL.cons h1 RpL.nil)
section
variable {X : Cx} {E : WX}
theorem ev_rev {e : Expr} {m : M Rv} {k : Nat} {p1 p2 p3 pos : Pos} (he : EV X E e m) : EV X E (.Subscript e (.Slice none none (some (.UnaryOp .USub (.Constant (.int 1) k p1) p2)) p3) pos) (mUn dRev m) :=
  PE.conv (pe_revD he) fun σ H Q q => un_conv (r := fun x H1 Q => ∃ a xs, x = .ref a ∧ ((SqL X.K H1 a xs ∧ ∀ p, H1 p = none → Q (.ref p) (upd H1 p (.lst xs.reverse))) ∨ (SqT X.K H1 a xs ∧ ∀ p, H1 p = none → Q (.ref p) (upd H1 p (.tup xs.reverse))))) (fun Hf H d x res Q e b er q => by
    cases d with
    | list ds =>
      cases er
      obtain ⟨a, vs, rfl, h1, h2⟩ := brp_list e b
      exact ⟨a, vs, rfl, .inl ⟨h1, fun p hp => q _ _ (.lst hp h2.rev)⟩⟩
    | tuple ds =>
      cases er
      obtain ⟨a, vs, rfl, h1, h2⟩ := brp_tup e b
      exact ⟨a, vs, rfl, .inr ⟨h1, fun p hp => q _ _ (.tup hp h2.rev)⟩⟩
    | _ => cases er) q
theorem ev_neg {i : Int} {k : Nat} {p1 pos : Pos} : EV X E (.UnaryOp .USub (.Constant (.int i) k p1) pos) (mC (.int (-i))) :=
  ev_c (v := .int (-i)) (PE.conv (pe_un un_neg pe_int) fun σ H Q q => ⟨i, rfl, q⟩) fun _ => by simp only [Rp]
end
end Pu
/-! Pu22: dict comprehensions. -/
namespace Pu
open PySem PySem.Spec PyProof.Rows L2
/-- in its place, or at the end (here) -/
def putD (kvs : List (D × D)) (k d : D) : List (D × D) := if (kvs.any fun kv => decide (keyD kv.1 = keyD k)) = true then kvs.map (fun kv => if keyD kv.1 = keyD k then (kv.1, d) else kv) else kvs ++ [(k, d)]
theorem RpK.nil {K : PySem.W.Frag} {H : Hp} : RpK K H [] [] := by simp only [RpK]
theorem RpK.cons_inv {K : PySem.W.Frag} {H : Hp} {k d : D} {r : List (D × D)} {ws : List (Key × V)} (h : RpK K H ((k, d) :: r) ws) : ∃ kk v t, ws = (kk, v) :: t ∧ keyD k = some kk ∧ Rp K H d v ∧ RpK K H r t := by simpa only [RpK] using h
theorem RpK.cons {K : PySem.W.Frag} {H : Hp} {k d : D} {r : List (D × D)} {kk : Key} {v : V} {t : List (Key × V)} (h1 : keyD k = some kk) (h2 : Rp K H d v) (h3 : RpK K H r t) : RpK K H ((k, d) :: r) ((kk, v) :: t) := by
  simp only [RpK]
  exact ⟨kk, v, t, rfl, h1, h2, h3⟩
theorem RpK.nil_inv {K : PySem.W.Frag} {H : Hp} {ws : List (Key × V)} (h : RpK K H [] ws) : ws = [] := by simpa only [RpK] using h
theorem RpK.any {K : PySem.W.Frag} {H : Hp} {k : D} {kk : Key} (e : keyD k = some kk) : ∀ {kvs : List (D × D)} {ws : List (Key × V)}, RpK K H kvs ws → (kvs.any fun kv => decide (keyD kv.1 = keyD k)) = ws.any fun kv => decide (kv.1 = kk)
  | [], ws, h => by rw [h.nil_inv]; rfl
  | (a, b) :: r, ws, h => by
    obtain ⟨k2, v, t, rfl, h1, h2, h3⟩ := h.cons_inv
    rw [List.any_cons, List.any_cons, RpK.any e h3]
    congr 1
    by_cases q : k2 = kk
    · rw [decide_eq_true q, decide_eq_true (by rw [h1, e, q])]
    · rw [decide_eq_false q, decide_eq_false (by rw [h1, e]; exact fun z => q (Option.some.inj z))]
theorem RpK.swap {K : PySem.W.Frag} {H : Hp} {k d : D} {kk : Key} {v : V} (e : keyD k = some kk) (hd : Rp K H d v) : ∀ {kvs : List (D × D)} {ws : List (Key × V)}, RpK K H kvs ws →
    RpK K H (kvs.map fun kv => if keyD kv.1 = keyD k then (kv.1, d) else kv) (ws.map fun kv => if kv.1 = kk then (kv.1, v) else kv)
  | [], ws, h => by rw [h.nil_inv]; exact RpK.nil
  | (a, b) :: r, ws, h => by
    obtain ⟨k2, v2, t, rfl, h1, h2, h3⟩ := h.cons_inv
    (rw [List.map_cons, List.map_cons])
    by_cases q : k2 = kk
    · rw [if_pos (show keyD (a, b).1 = keyD k by rw [h1, e, q]), if_pos (show (k2, v2).1 = kk from q)]
      exact RpK.cons h1 hd (RpK.swap e hd h3)
    · rw [if_neg (show ¬ keyD (a, b).1 = keyD k by rw [h1, e]; exact fun z => q (Option.some.inj z)), if_neg (show ¬ (k2, v2).1 = kk from q)]
      exact RpK.cons h1 h2 (RpK.swap e hd h3)
theorem RpK.app {K : PySem.W.Frag} {H : Hp} {k d : D} {kk : Key} {v : V} (e : keyD k = some kk) (hd : Rp K H d v) : ∀ {kvs : List (D × D)} {ws : List (Key × V)}, RpK K H kvs ws → RpK K H (kvs ++ [(k, d)]) (ws ++ [(kk, v)])
  | [], ws, h => by rw [h.nil_inv]; exact RpK.cons e hd RpK.nil
  | (a, b) :: r, ws, h => by
    obtain ⟨k2, v2, t, rfl, h1, h2, h3⟩ := h.cons_inv
    exact RpK.cons h1 h2 (RpK.app e hd h3)
theorem RpK.put {K : PySem.W.Frag} {H : Hp} {k d : D} {kk : Key} {v : V} {kvs : List (D × D)} {ws : List (Key × V)} (h : RpK K H kvs ws) (e : keyD k = some kk) (hd : Rp K H d v) : RpK K H (putD kvs k d) (putK ws kk v) := by
  unfold putD putK
  rw [h.any e]
  split
  · exact RpK.swap e hd h
  · exact RpK.app e hd h
theorem RpK.length' {K : PySem.W.Frag} {H : Hp} {kvs : List (D × D)} {ws : List (Key × V)} (h : RpK K H kvs ws) : ws.length = kvs.length := RpK.length h
/-- the turns of {k: v for .. if ..} -/
def loopK (vs : List Nat) (p : D → M Unit) (mt : M Bool) (mk mv : M Rv) : List D → List (D × D) → M (List (D × D))
  | [], acc => M.pure acc
  | d :: ds, acc => M.bind (p d) fun _ => M.bind (calm mt) fun b => if b then (M.bind (calm mk) fun r => M.bind (retain r) fun k => M.bind (calm mv) fun r => M.bind (retain r) fun y => fun s =>
      if acc.length < sizeLine ∧ (keyD k).isSome = true then loopK vs p mt mk mv ds (putD acc k y) { s with ρ := wipeS s.ρ vs } else none) else fun s => loopK vs p mt mk mv ds acc { s with ρ := wipeS s.ρ vs }
def mDictC (vs : List Nat) (mi : M (List D)) (t : Tg) (mt : M Bool) (mk mv : M Rv) : M Rv := M.bind mi fun ds => fun s => if freeS s.ρ vs then
    (M.bind (loopK vs t.put mt mk mv ds []) fun acc => fun s' => some ({ s' with ρ := backS s.ρ s'.ρ vs }, .ok (.dat (.dict acc)))) { s with ρ := wipeS s.ρ vs }
  else none
theorem upd_self {H : Hp} {p : Addr} {o : HO} (h : H p = some o) : upd H p o = H := funext fun b => by
  by_cases e : b = p
  · rw [e, upd_same, h]
  · rw [upd_ne e]
theorem dc_conv {K : PySem.W.Frag} {mg : Str → Option Value} {E : WX} {vs : List Nat} {mi : M (List D)} {t : Tg} {mt : M Bool} {mk mv : M Rv} {tt : TT} {σ : L2.St} {H : Hp} {Q : VK} (hv : ∀ i ∈ t.slots, i ∈ vs) (hsub : ∀ σ H Q', tMT K mg W0 mt σ H Q' → tt σ H Q')
    (q : tM K mg E (mDictC vs mi t mt mk mv) σ H Q) : tDc (iM K mg E mi) (tMG K t.slots t.put) tt (tM K mg W0 mk) (tM K mg W0 mv) vs σ H Q := by
  obtain ⟨ba, O, Hf, s, R, F⟩ := q
  refine ⟨ba, O, Hf, s, R, F.bind.imp (fun ds s1 F1 J H1 Hf1 R1 e1 it => ?_) fun x s' q => q⟩
  intro D hD
  by_cases hfr : freeS s1.ρ vs = true
  · simp only [hfr, if_true] at F1
    obtain ⟨f1, f2, f3⟩ := R1.reg.free hD
    let Post : List (PyData × PyData) → S → Prop := fun acc s' => ∀ v H' Hf', Rep K ba O Hf' H' σ { s' with ρ := backS s1.ρ s'.ρ vs } → Same Hf1 Hf' → RvOk K ba O Hf' H' σ { s' with ρ := backS s1.ρ s'.ρ vs } (.dat (.dict acc)) v → Q v H'
    have F2 : Fits (loopK vs t.put mt mk mv ds [] { s1 with ρ := wipeS s1.ρ vs }) Post fun _ _ => True :=
      F1.bind.imp (fun acc s' h v H' Hf' R' e' ok' => h v H' Hf' R' (Same.trans e1 e') ok') fun _ _ _ => trivial
    refine ⟨fun i m H => ∃ Hf2 s2 acc ws, Rep K ba (upd O D (.dK ws)) Hf2 H (L2.wipe σ vs) s2 ∧ RpK K Hf2 acc ws ∧ Same Hf1 Hf2 ∧ m = ds.length - i ∧ i ≤ ds.length ∧ Fits (loopK vs t.put mt mk mv (ds.drop i) acc s2) Post fun _ _ => True,
      ⟨ds.length, Hf1, _, [], [], ?_, RpK.nil, Same.refl _, rfl, Nat.zero_le _, F2⟩, ?_⟩
    · refine ((R1.grow (o := .dK []) hD).wipe (vs := vs)).outer upd_same f1 f3 fun i es e2 e3 => ?_
      obtain ⟨x', e5, b', rfl, ws', j1, _⟩ := (R1.wipe (vs := vs)).at e2
      rw [e3] at e5
      cases e5
      rw [hD] at j1
      cases j1
    · rintro i m H2 ⟨Hf2, s2, acc, ws, R2, pA, e2, rfl, hl, F3⟩
      have it2 := it.mono e2
      by_cases hi : i < ds.length
      · rw [List.drop_eq_getElem_cons hi] at F3
        unfold loopK at F3
        refine .inr ⟨it2.go i H2 R2.reg.sub hi, fun H' => ∃ Hf3 s3 acc' ws', Rep K ba (upd O D (.dK ws')) Hf3 H' (L2.wipe σ vs) s3 ∧ RpK K Hf3 acc' ws' ∧ Same Hf1 Hf3 ∧ Fits (loopK vs t.put mt mk mv (ds.drop (i + 1)) acc' s3) Post fun _ _ => True, fun H' n => ?_, fun x H' y => ?_⟩
        · obtain ⟨Hf3, s3, acc', ws', R3, p3, e3, F4⟩ := n
          exact ⟨ds.length - (i + 1), by omega, Hf3, s3, acc', ws', R3, p3, e3, rfl, hi, F4⟩
        · obtain ⟨Hf3, e3, R3, p3⟩ := R2.item (it2.yld i H2 x H' ds[i] R2.reg.sub (List.getElem?_eq_getElem hi) y)
          refine ⟨ba, upd O D (.dK ws), Hf3, s2, ds[i], R3, p3, (Fits.put F3.bind).imp (fun _ s4 F4 σ4 H4 Hf4 R4 e4 on => ?_) fun x s' q => q⟩
          have w4 : L2.wipe σ4 vs = L2.wipe σ vs := by rw [on.wipe hv, wipe_twice]
          refine ⟨w4, hsub _ _ _ ⟨ba, upd O D (.dK ws), Hf4, s4, R4, F4.bind.calm.imp (fun b s5 F5 H5 Hf5 R5 e5 => ?_) fun x s' q => q⟩⟩
          have e25 : Same Hf2 Hf5 := Same.trans e3 (Same.trans e4 e5)
          cases b with
          | true =>
            refine iteT ⟨ba, upd O D (.dK ws), Hf5, s5, R5, (Fits.bind F5).calm.imp (fun r s6 F6 v H6 Hf6 R6 e6 ok6 => ?_) fun x s' q => q⟩
            obtain ⟨k', s7, Hf7, F7, e7, R7, p7⟩ := retain_ok R6 ok6 F6.bind
            refine ⟨ba, upd O D (.dK ws), Hf7, s7, R7, (Fits.bind F7).calm.imp (fun r s8 F8 v8 H8 Hf8 R8 e8 ok8 => ?_) fun x s' q => q⟩
            obtain ⟨y', s9, Hf9, F9, e9, R9, p9⟩ := retain_ok R8 ok8 F8.bind
            have hD9 : H8 D = some (.dK ws) := R9.reg.out D _ upd_same
            by_cases hz : acc.length < sizeLine ∧ (keyD k').isSome = true
            · simp only [if_pos hz] at F9
              obtain ⟨kk, ek⟩ := Option.isSome_iff_exists.mp hz.2
              have p7' := key_rp p7 ek
              refine ⟨ws, kk, p7', hD9, by rw [pA.length']; exact hz.1, Hf9, _, putD acc k' y', putK ws kk v8, ?_, ?_, Same.trans e2 (Same.trans e25 (Same.trans e6 (Same.trans e7 (Same.trans e8 e9)))), F9⟩
              · have := (R9.wipe (vs := vs)).change (o' := .dK (putK ws kk v8))
                rw [w4] at this
                exact this
              · exact (RpK.mono (Same.trans e25 (Same.trans e6 (Same.trans e7 (Same.trans e8 e9)))) _ _ pA).put ek p9
            · simp only [if_neg hz] at F9
              exact F9.elim
          | false =>
            refine iteF ⟨Hf5, _, acc, ws, ?_, RpK.mono e25 _ _ pA, Same.trans e2 e25, F5⟩
            have := R5.wipe (vs := vs)
            rw [w4] at this
            exact this
      · rw [List.drop_eq_nil_of_le (by omega)] at F3
        unfold loopK at F3
        have F4 : Post acc s2 := F3
        have hH : H2 D = some (.dK ws) := R2.reg.out D _ upd_same
        obtain ⟨e5, R5⟩ := R2.giveD (o' := .dK ws) f2 f3
        rw [upd_self hH] at R5
        have e25 := Same.trans e2 e5
        refine .inl ⟨it2.stop i H2 R2.reg.sub (by omega), F4 _ H2 _ (R1.unwipe hfr R5 e25) e25 ?_⟩
        show Rp K _ (.dict acc) (.ref D)
        simp only [Rp]
        exact ⟨D, ws, rfl, upd_same, RpK.mono e5 _ _ pA⟩
  · simp only [hfr] at F1
    exact F1.elim
section
variable {X : Cx} {E : WX}
theorem ev_dc {kx vx tg iter : Expr} {ifs : List Expr} {scope : Scope} {own : List (Str × Nat)} {pos : Pos} {mi : M (List D)} {t : Tg} {mt : M Bool} {mk mv : M Rv} (hc : X.calm = true) (hN : X.N.Nodup) (hi : EI X E tg iter mi) (ok : BlkOk X.N X.env.scope scope own)
    (hg : ∀ (s : Shared) (H : Hp) (C : Addr) (cl : List (Str × Addr)) (fp : List Addr), EG (X.blk s H scope (compEnvC scope cl C X.env) fp) tg t)
    (ht : ∀ (s : Shared) (H : Hp) (C : Addr) (cl : List (Str × Addr)) (fp : List Addr), PTs (X.blk s H scope (compEnvC scope cl C X.env) fp) ifs (tMT X.K X.mg W0 mt))
    (hk : ∀ (s : Shared) (H : Hp) (C : Addr) (cl : List (Str × Addr)) (fp : List Addr), EV (X.blk s H scope (compEnvC scope cl C X.env) fp) W0 kx mk)
    (he : ∀ (s : Shared) (H : Hp) (C : Addr) (cl : List (Str × Addr)) (fp : List Addr), EV (X.blk s H scope (compEnvC scope cl C X.env) fp) W0 vx mv)
    (hv : ∀ i ∈ t.slots, i ∈ own.map (·.2) := by decide) (hs : ∀ x, foldedSetIterable iter X.env x = pure x := by intro _; rfl) :
    EV X E (.DictComp kx vx [⟨tg, iter, ifs, 0⟩] scope pos) (mDictC (own.map (·.2)) mi t mt mk mv) :=
  PE.conv (pe_dc hc hN hi ok hg ht hk he hs) fun σ H Q q => dc_conv hv (fun _ _ _ q => q) q
end
end Pu
/-! Pu23: the same of one argument (printed from Pu14 by mk23.py). -/
namespace Pu
open PySem PySem.Spec PyProof.Rows L2
def superInit1 (a1 : Str) (p0 p1 p2 p3 p5 p6 : Pos) : Stmt := .Expr (.Call (.Attribute (.Call (.Name "super" p0) [] [] p1) "__init__" p2) [.Name a1 p3] [] p5) p6
section
open PySem.W PySem.Calls
variable {P : Program} {w : World} {A : Around} {R : Result → Shared → Prop} {s : Shared} {K : Frag} {mg : Str → Option Value} {base : Heap}
theorem exc_init1 {C fI x t0 : Addr} {name qual a1 : Str} {params : Arguments} {scope : Scope} {v1 : Value} {p0 p1 p2 p3 p5 p6 q0 q1 q2 q3 : Pos}
    (T : ExcI P K C fI name qual params [superInit1 a1 p0 p1 p2 p3 p5 p6, keepArg a1 q0 q1 q2 q3] scope) (M : Mod K mg base) (bk : ∀ b o, base.get? b = some o → s.heap.get? b = some o)
    (xb0 : base.get? x = none) (hsup : mg "super" = none) (hd : A.depth < recursionLimit)
    (hx : s.heap.get? x = some (excObj C t0 none .none)) (n1 : findIn K (.ref C) a1 = some none)
    (hp : (params.posonlyargs ++ params.args).head?.map (·.arg) = some "self")
    (hb : ∀ (s : Shared) kV doc pm an cdv ct cc, BindsTo s (ksFn name qual params [superInit1 a1 p0 p1 p2 p3 p5 p6, keepArg a1 q0 q1 q2 q3] scope .none kV doc pm an cdv ct cc) ⟨[.ref x, v1], []⟩ [(("self" : Str), .ref x), (a1, v1)])
    (hs : scope.names.lookup ("self" : Str) = some .local) (h1 : scope.names.lookup a1 = some .local) (hks : scope.names.lookup ("super" : Str) = some .globalImplicit) (hkc : scope.names.lookup ("__class__" : Str) = some .free)
    (hcell : ∀ x ∈ scope.names, x.2 ≠ .cell) (hk : scope.kind = .function) (hco : scope.isCoroutine = false) (hgen : scope.isGenerator = false) (htop : (P.main.scope.names.lookup ("super" : Str)).isSome = false)
    {pl : Sem Bool} (hev : ∀ (L f cc : Addr) (cd : Value), eval (.Call (.Attribute (.Call (.Name "super" p0) [] [] p1) "__init__" p2) [.Name a1 p3] [] p5) (ksEnv qual scope L f cd cc) = (do
      let ov ← attributeBase (.Call (.Name "super" p0) [] [] p1) "__init__" (ksEnv qual scope L f cd cc) (eval (.Call (.Name "super" p0) [] [] p1) (ksEnv qual scope L f cd cc))
      standAt p2.atName
      let (f', first) ← holding [ov] (getMethod ov "__init__" pl)
      callWith p5 f' first (backTo p5 (starEach [.Name a1 p3] (ksEnv qual scope L f cd cc))) []))
    (d1 : (a1 == ("__debug__" : Str)) = false) (s1 : ("self" : Str) ≠ a1)
    (h : ∀ h' tk dx t1, (∀ b o, b ≠ x → s.heap.get? b = some o → h'.get? b = some o) → x < dx → h'.get? x = some (excObj C t1 (some dx) .none) →
      h'.Ns1 dx (fun y => if y = a1 then some v1 else none) → R (.ok (.ret .none)) { s with heap := h', toks := tk }) :
    codeAny (model P w) A (.call (.ref fI) ⟨[.ref x, v1], []⟩) R s := by
  obtain ⟨sk, sn', sg, sc, sm⟩ := scope
  dsimp only at hs h1 hks hkc hcell hk hco hgen
  subst hk hco hgen
  obtain ⟨oc, od, osl, kV, doc, pm, an, cda, ct, cc, hf, hcd, ⟨ccl, cdd, vs, ccs, file, tf, hcode, hvs, hfile⟩, cl, cld, csl, hcc⟩ := T.fn
  obtain ⟨nm, q, N, bs, bm, sn, sub, ab, col, dd, k0, k1, k2, k3, k5, hC, hbm⟩ := T.oex.cls
  have X : K.In s.heap := M.kin.keeps bk
  obtain ⟨ar, har, hea⟩ := Option.map_eq_some_iff.mp hp
  refine ks_codeAny_call_defAt (fd := ksFn name qual params _ ⟨.function, sn', false, false, sm⟩ .none kV doc pm an (.ref cda) ct cc) hd (X _ _ hf) rfl (M.nolimit.keeps bk) (codeRec_of X hcd) rfl (hb _ _ _ _ _ _ _ _) hcell (fun y hy => ?_) (fun ha hns hka => ?_) rfl rfl rfl
  · rcases (show y = (("self" : Str), Value.ref x) ∨ y = (a1, v1) from by simpa using hy) with rfl | rfl
    · exact hs
    · exact h1
  have look : ∀ y, (([(("self" : Str), Value.ref x), (a1, v1)] : List (Str × Value)).reverse.lookup y) = if y = a1 then some v1 else if y = ("self" : Str) then some (.ref x) else none := fun y => by
    show (match y == a1 with | true => some v1 | false => (match y == ("self" : Str) with | true => some (.ref x) | false => none)) = _
    by_cases e1 : y = a1
    · rw [if_pos e1, beq_iff_eq.mpr e1]
    · rw [if_neg e1, beq_eq_false_iff_ne.mpr e1]
      by_cases e0 : y = ("self" : Str)
      · rw [if_pos e0, beq_iff_eq.mpr e0]
      · rw [if_neg e0, beq_eq_false_iff_ne.mpr e0]
  have hxa := hka _ _ hx
  have xlt : x < s.heap.objs.size := Heap.lt_size hx
  have Xa : K.In ha := X.keeps hka
  have ld : ∀ {A' : Around} {E : Value → Shared → Prop} {s' : Shared} {y : Str} {v : Value} {Q : Value → Shared → Prop}, s'.heap.Ns s.heap.objs.size (fun x_1 => List.lookup x_1 ([(("self" : Str), Value.ref x), (a1, v1)] : List (Str × Value)).reverse) →
      sn'.lookup y = some .local → (([(("self" : Str), Value.ref x), (a1, v1)] : List (Str × Value)).reverse.lookup y) = some v → Q v s' → wpAny (model P w) A' (loadName (ksEnv qual ⟨.function, sn', false, false, sm⟩ s.heap.objs.size fI (.ref cda) cc) y) Q E s' := fun {A' E s' y v Q} hn hl hv hq =>
    wpAny_loadName_local (env := ksEnv qual ⟨.function, sn', false, false, sm⟩ s.heap.objs.size fI (.ref cda) cc) rfl hl hn hv hq
  have l0 : (([(("self" : Str), Value.ref x), (a1, v1)] : List (Str × Value)).reverse.lookup ("self" : Str)) = some (.ref x) := by rw [look, if_neg s1, if_pos rfl]
  have l1 : (([(("self" : Str), Value.ref x), (a1, v1)] : List (Str × Value)).reverse.lookup a1) = some v1 := by rw [look, if_pos rfl]
  obtain ⟨mb, bb, bbq⟩ := M.blt
  have kba : ∀ b o, base.get? b = some o → ha.get? b = some o := fun b o e => hka _ _ (bk _ _ e)
  refine ks_wpAt_execs_cons (ks_wpAt_Expr_any (ks_wpAt_MethodCall ?_ (hev _ _ _ _)))
  refine ks_wpAt_super_base (env := ksEnv qual ⟨.function, sn', false, false, sm⟩ s.heap.objs.size fI (.ref cda) cc) hks hkc (by decide) rfl (Xa _ _ hf) rfl har rfl (Xa _ _ hcode) rfl hvs hfile htop ?_
  refine ks_loadName_global rfl hks (loadGlobal_builtin (env := ksEnv qual ⟨.function, sn', false, false, sm⟩ s.heap.objs.size fI (.ref cda) cc) (M.glob.keeps kba) hsup (bb.keeps kba) ((bbq _ (by decide +kernel)).trans (by decide +kernel : bootBuiltins "super" = some (.type "super"))) ⟨rfl, ?_⟩)
  refine wpAny_loadName_free rfl hkc rfl ⟨_, Xa _ _ hcc, rfl⟩ ?_
  rw [hea]
  refine ld hns hs l0 ?_
  refine ks_wpAny_isType_cls (Xa _ _ hC) rfl ⟨rfl, ?_⟩
  refine ks_wpAny_call_super (Xa _ _ hC) rfl hxa rfl nofun (looks_mroIn Xa T.self) (fun hb' hso kb => ?_)
  have xb := kb _ _ hxa
  have Xb := Xa.keeps kb
  have IX : InstAt hb' x (excObj C t0 none .none) C none := ⟨xb, rfl, rfl, trivial⟩
  have hI : Looks (model P w) hb' (isInstance (.ref x) (.type "ValueError")) true := IX.type.andThen (looks_subIn Xb T.subB)
  (have hcl : clsIn K C = some { name := nm, bases := bs, mro := .ref C :: bm, ns := N, qualname := q, hasDict := true, slotNames := sn, subclasses := sub, abstract := ab, collection := col, hasDel := false } := by unfold clsIn; rw [hC] <;> rfl)
  have hsu := T.sup
  unfold ks_superIn at hsu
  rw [hcl] at hsu
  refine kxs_getMethod kxs_ValueError hso (looks_opaque Xb T.opq) (l₀ := .ref C :: bm) (fun A Q E s k q => wpAny_bind ((looks_clsIn Xb hcl) A _ E s k (wpAny_pure q))) rfl Xb hsu hI (ks_ne Xb IX hcl) (by decide) ?_
  have nsb : (hb'.push (kxs_mw "ValueError.__init__" x)).Ns s.heap.objs.size _ := (hns.keeps kb).keeps fun b o e => Heap.get?_push_of_some _ e
  refine kxs_callWith (i := "ValueError.__init__") (x := x) rfl (evalArgs_plain ?_)
  refine args_cons (wpAny_Name (ld nsb h1 l1 ?_) d1) rfl
  refine args_nil ⟨Heap.get?_push_size _ rfl, ?_⟩
  have kc : ∀ b o, hb'.get? b = some o → (hb'.push (kxs_mw "ValueError.__init__" x)).get? b = some o := fun b o e => Heap.get?_push_of_some _ e
  refine call_mw (Xb.keeps kc _ _ hC) (kc _ _ xb) (Heap.get?_push_size _ rfl) (by show 1 ≤ sizeLine; decide) fun hc t1 kd xd => ?_
  have xL : s.heap.objs.size ≠ x := Nat.ne_of_gt xlt
  have kall : ∀ b o, b ≠ x → s.heap.get? b = some o → hc.get? b = some o := fun b o nb e => kd b o nb (kc _ _ (kb _ _ (hka _ _ e)))
  have nsd : hc.Ns s.heap.objs.size _ := nsb.at fun o e => kd _ o xL e
  have xC : x ≠ C := ks_ne Xb IX hcl
  have nbx : ∀ b o, base.get? b = some o → b ≠ x := fun b o e z => by rw [z, xb0] at e; cases e
  have Xc : K.In hc := fun b o e => kall b o (nbx b o (M.kin _ _ e)) (X _ _ e)
  have sv : HandSPX.refsVE (.ref C :: bm) = true := hbm
  refine wpAt_of_wpAny (wpAny_execs_cons (plainObj_wpAny_Assign_Attribute (wpAny_Name (ld nsd h1 l1 ?_) d1) rfl))
  refine wpAny_Name (ld nsd hs l0 ?_) (by decide)
  refine set_plain Xc (ox := excObj C t1 none .none) (od := none) ⟨xd, rfl, rfl, trivial⟩ T.oex.sa ?_
  refine HandSPX.exc_osa (cd := { name := nm, bases := bs, mro := .ref C :: bm, ns := N, qualname := q, hasDict := true, slotNames := sn, subclasses := sub, abstract := ab, collection := col, hasDel := false }) Xc xd hcl sv rfl n1 (fun h' tk' dx k dn dne hx' hn => ?_)
  refine wpAny_execs_nil ?_
  have xdx : x < dx := Nat.lt_of_lt_of_le (Heap.lt_size xd) dn
  exact h h' tk' dx t1 (fun b o nb e => k b o nb (kall b o nb e)) xdx hx' hn
end
section
variable {X : Cx} {E : WX}
def tMk1 (C : Addr) (a1 : Str) (ta : TA) : St → Hp → XK → Prop := fun σ H Q => ta σ H fun vs H1 => ∃ x, vs = [x] ∧ ∀ d, H1 d = none → Q (.ref C) (some d) (upd H1 d (.xd [(a1, x)]))
theorem pmk_exi1 {C fI : Addr} {xn name qual a1 : Str} {params : Arguments} {scope : Scope} {p0 p1 p2 p3 p5 p6 q0 q1 q2 q3 np pos : Pos} {e1 : Expr} {ta : TA} {k : Nat}
    (T : ExcI X.prog X.K C fI name qual params [superInit1 a1 p0 p1 p2 p3 p5 p6, keepArg a1 q0 q1 q2 q3] scope) (hg : Gl X xn) (hm : X.mg xn = some (.ref C)) (hr : Room (k + 1) X.A) (ha : PA X [e1] ta)
    (hinit : Mod X.K X.mg X.base → ∀ (A : Around) (s : Shared) (R : Result → Shared → Prop) (x t0 : Addr) (v1 : Value), (∀ b o, X.base.get? b = some o → s.heap.get? b = some o) → X.base.get? x = none → A.depth < recursionLimit → s.heap.get? x = some (PySem.W.excObj C t0 none .none) →
      (∀ h' tk dx t1, (∀ b o, b ≠ x → s.heap.get? b = some o → h'.get? b = some o) → x < dx → h'.get? x = some (PySem.W.excObj C t1 (some dx) .none) →
        h'.Ns1 dx (fun y => if y = a1 then some v1 else none) → R (.ok (.ret .none)) { s with heap := h', toks := tk }) → codeAny (model X.prog X.w) A (.call (.ref fI) ⟨[.ref x, v1], []⟩) R s)
    (hdb : (xn == ("__debug__" : Str)) = false := by decide) (he : starEach [e1] X.env = (false, eval e1 X.env) :: starEach [] X.env := by rfl) (hpl : (backTo pos (starEach [] X.env)).any (·.1) = false := by rfl) :
    PMk X (.Call (.Name xn np) [e1] [] pos) (tMk1 C a1 ta) := by
  intro pins s σ H Q I h
  obtain ⟨nm, q, N, bs, bm, sn, sub, ab, col, dd, k0, k1, k2, k3, k5, hC, hbm⟩ := T.oex.cls
  refine wpAny_Call_Name_kw (ld_glob I hg hm (PySem.W.callWith_K (h₀ := X.base) I.ok.mod.kin T.oex.kC (thn (ha.run pos pins s σ H _ I h) fun us s1 hz => ?_) he hpl) hdb)
  obtain ⟨vs, H1, I1, r1, x, rfl, q1⟩ := hz
  refine ⟨I1.kIn, ?_⟩
  obtain ⟨u1, rfl, rx⟩ := vals1 r1
  (obtain ⟨hp, g, dr, tk, os⟩ := s1)
  have up : ∀ b o, hp.get? b = some o → ((hp.push (PySem.W.kdv_tup [u1])).push (PySem.HandSPX.excO C hp.objs.size)).get? b = some o := fun b o e => Heap.get?_push_of_some _ (Heap.get?_push_of_some _ e)
  have hget : ((hp.push (PySem.W.kdv_tup [u1])).push (PySem.HandSPX.excO C hp.objs.size)).get? (hp.objs.size + 1) = some (PySem.HandSPX.excO C hp.objs.size) := by heap_get
  have b0 : X.base.get? (hp.objs.size + 1) = none := by
    cases e : X.base.get? (hp.objs.size + 1) with
    | none => rfl
    | some o =>
      have z1 := Heap.lt_size e
      have z2 : X.base.objs.size ≤ hp.objs.size := Nat.le_trans I1.ok.bsz I1.sz
      exact absurd (Nat.lt_of_lt_of_le z1 z2) (Nat.not_lt.mpr (Nat.le_succ _))
  have room := hr.make C [u1] []
  refine wpAny_call (PySem.HandSPX.call_own F.excBase_ValueError (fun Y => PySem.HandSPX.refsVE_contains Y bm hbm) (I1.kIn _ _ hC) (PySem.W.looks_findIn I1.kIn T.fnd) (fun self => PySem.W.bind_fn I1.kIn self T.isf) (by show 1 ≤ sizeLine; decide)
    (hinit I.ok.mod _ _ _ _ hp.objs.size u1 (fun b o e => up b o (I1.bk b o e)) b0 (Nat.lt_of_le_of_lt (by rw [Nat.add_assoc]; exact Nat.le_add_right _ _) room.dp) hget fun h' tk' dx t1 kk lt hx hn => ⟨rfl, ?_⟩))
  obtain ⟨G, g1, g2⟩ := restrict h' fun b => decide (b ≠ hp.objs.size + 1)
  have gk : ∀ b, b ≠ hp.objs.size + 1 → G.get? b = h'.get? b := fun b hb => g1 b (decide_eq_true hb)
  have ge : G.get? (hp.objs.size + 1) = none := g2 _ (by simp)
  have nd : dx ≠ hp.objs.size + 1 := Nat.ne_of_gt lt
  have le : hp.objs.size ≤ dx := Nat.le_of_lt (Nat.lt_of_succ_lt lt)
  have kG : ∀ b o, hp.get? b = some o → G.get? b = some o := fun b o e => by
    have nb : b ≠ hp.objs.size + 1 := Nat.ne_of_lt (Nat.lt_succ_of_lt (Heap.lt_size e))
    rw [gk b nb]
    exact kk b o nb (up b o e)
  have hn1 : H1 dx = none := I1.hok.fresh le
  have J := I1.laid (t' := tk') (h' := G) (a := dx) (o := .xd [(a1, x)]) kG le ⟨_, hn.at fun o e => by rw [gk dx nd]; exact e, relO_put (fs := []) (mA := fun _ => none) rx fun _ => True.intro⟩
  refine ⟨hp.objs.size + 1, _, _, ⟨G, g, dr, tk', os⟩, _, .ref C, some dx, rfl, J, fun b o e => ?_, ge, hx, ⟨rfl, rfl⟩, rfl, rfl, ?_, rfl, I1.bare, raises_own T.oex.exC T.oex.tyC, q1 dx hn1⟩
  · have nb : b ≠ hp.objs.size + 1 := fun z => by
      have e' : G.get? b = some o := e
      rw [z, ge] at e'; cases e'
    exact (gk b nb).symm.trans e
  · rw [upd_ne (Ne.symm nd)]
    exact I1.hok.fresh (Nat.le_succ _)
theorem es_raise1 {C : Addr} {xn a1 : Str} {e1 : Expr} {m1 : M Rv} {np pos pos' : Pos} (hc : X.calm = true) (tk : Takes X E) (hm : X.mg xn = some (.ref C)) (h : ∀ ta, PA X [e1] ta → PMk X (.Call (.Name xn np) [e1] [] pos) (tMk1 C a1 ta)) (ha : EA X E [e1] [m1]) :
    ES X E (.Raise (some (.Call (.Name xn np) [e1] [] pos)) none pos') (mRaise xn [a1] [m1]) :=
  PS.conv (ps_raise hc tk (h _ ha)) fun D σ H q => by
    obtain ⟨ba, O, Hf, s, R0, F⟩ := q
    refine ⟨ba, O, Hf, s, R0, (mArgs_len F.bind).imp (fun as s1 F1 vs H1 Hf1 R1 e1 ok1 => ?_) fun x s' q => ExS.at q⟩
    obtain ⟨l, F1⟩ := F1
    obtain ⟨ds, ed, F2⟩ := F1.bind.lift
    have rl := dats_rp ok1 ed
    have hl := rl.length
    have hv : vs.length = 1 := by rw [ok1.length, l]; rfl
    match ds, vs, rl, hl, hv with
    | [d1], [x], rl, _, _ =>
      refine ⟨x, rfl, fun d hd => ?_⟩
      obtain ⟨_, _, z1, r1, z2⟩ := rl.cons_inv
      cases z1
      exact F2 σ _ Hf1 _ _ (R1.grow hd) e1 ⟨hm, d, _, rfl, upd_same, rfl, RpL.cons r1 RpL.nil⟩
end
end Pu
/-! Pu24: several except clauses, each with a name. -/
namespace Pu
open PySem PySem.Spec PyProof.Rows L2
/-- what the clauses wish, one after the other -/
def wAll (K : PySem.W.Frag) (Wout : WX) (D : Ends) : List (Value × Nat × (Addr → Value → Option Addr → TS)) → WX
  | [] => Wout
  | (c, i, ts) :: r => fun cls d σ H => ∃ b, PySem.W.exmOne K cls c = some b ∧ (b = true → ∀ a, H a = none → i < σ.length → ts a cls d { nx := fun σ' H' => D.nx (σ'.set i none) H', rt := D.rt, bk := fun σ' H' => D.bk (σ'.set i none) H', ct := fun σ' H' => D.ct (σ'.set i none) H' } (σ.set i (some (.ref a))) H) ∧
      (b = false → wAll K Wout D r cls d σ H)
inductive HdsAs (X : Cx) : List ExceptHandler → List (Value × Nat × (Addr → Value → Option Addr → TS)) → Prop
  | nil : HdsAs X [] []
  | cons {x n : Str} {c : Value} {i : Nat} {ts : Addr → Value → Option Addr → TS} {b₀ : Stmt} {suite : List Stmt} {np pos' : Pos} {hds : List ExceptHandler} {l : List (Value × Nat × (Addr → Value → Option Addr → TS))} (hc : Names X x c) (hi : X.N[i]? = some n) (hln : X.env.kindOf n = some .local)
      (hsu : ∀ (a : Addr) (oe : Obj) (cls : Value) (d : Option Addr) (pn : List (Addr × Obj)), Zc cls d oe → (∃ vs, oe.data = .fields vs) → PSs (X.suite a ((a, oe) :: pn)) (b₀ :: suite) (ts a cls d)) (r : HdsAs X hds l) :
      HdsAs X (.ExceptHandler (some (.Name x np)) (some n) (b₀ :: suite) pos' :: hds) ((c, i, ts) :: l)
section
variable {X : Cx} {body : List Stmt} {h₀ : ExceptHandler} {hds : List ExceptHandler} {l : List (Value × Nat × (Addr → Value → Option Addr → TS))} {pos : Pos} {tb : WX → TS} {Wout : WX}
theorem ps_tryN (hs : X.stack = X.env :: X.outer) (hf : X.env.frame = some X.env.locals) (hN : X.N.Nodup) (tk : Takes X Wout)
    (hb : ∀ (W
            : WX) (pn : List (Addr × Obj)) (xe : Value → Shared → Prop), Takes (X.tr pn xe) W → PassesOwn (model X.prog X.w) X.A X.env xe → PSs (X.tr pn xe) body (tb W))
    (hh : HdsAs X (h₀ :: hds) l) : PS X (.Try body (h₀ :: hds) [] [] pos) (fun D σ H => tb (wAll X.K Wout D l) D σ H) := by
  (refine ⟨fun pins s σ H D I h => ?_⟩)
  have ok := I.ok
  (have hfr : X.A.frames = some (X.env :: X.outer) := by rw [ok.frames, hs])
  refine wpAny_Try_except ?_
  refine wpAny_mono ((hb (wAll X.K Wout D l) (X.pn ++ pins) (fun e s₁ => wpAny (model X.prog X.w) X.A (noteFrame e X.env) (fun _ s₂ => wpAny (model X.prog X.w) X.A (setFlight e none) (fun _ s₃ =>
    wpAny (model
            X.prog X.w) X.A (handleBy e X.env (h₀ :: hds)) (SP X pins D) X.xe s₃) X.xe s₂) X.xe s₁) (fun u s' xx => ?_) PassesOwn.looking).run [] s σ H D (I.toTry _) h) (fun f s1 hsp => ?_) (fun e s1 he => he)
  · -- the catch
    (obtain ⟨a, B, sI, pins', σ', H', cls, d, rfl, J', nb, up, sky, na, os, ag, w⟩ := xx)
    (have J : Inv X pins σ' H' sI := J'.ofTry ok)
    (have sky' : Sky B (X.env :: X.outer) a (Zc cls d) X.env.locals s'.heap := by rw [← hs]; exact sky)
    show wpAny (model
            X.prog X.w) X.A (noteFrame (.ref a) X.env) _ _ _
    (refine Sky.land Zc.steady hfr hf sky' fun h3 fl3 up3 => ?_)
    (have J3 : Inv X pins σ' H' { s' with heap := h3 } := J.landed nb fl3.1 (up.trans up3) os ag)
    (obtain ⟨oe3, vs3, he3, hz3, hd3⟩ := fl3.there)
    have notFr : ∀ {h
            : Heap} {o : Obj} {vs : Array Value}, h.FunFrames B (X.env :: X.outer) → h.get? a = some o → o.data = .fields vs → a ∉ frs (X.env :: X.outer) := fun {h o vs} ff e dd hm => by
      (obtain ⟨_, o', e', hnf⟩ := ff.mem hm)
      rw [e] at e'; cases e'
      exact hnf _ dd
    (have nfr := notFr fl3.2.2.1 he3 hd3)
    (have nL : a ≠ X.env.locals := fun z => nfr (List.mem_filterMap.mpr ⟨X.env, List.mem_cons_self, by rw [hf, z]⟩))
    have nF : a ∉ (X.fs) := fun hm => by
      (obtain ⟨e, he, q⟩ := List.mem_filterMap.mp hm)
      (exact nfr (List.mem_filterMap.mpr ⟨e, List.mem_cons_of_mem _ he, q⟩))
    (have S3 := J3.suite he3 hd3 na nL nF)
    have go : ∀ {hds' : List ExceptHandler} {l' : List (Value × Nat × (Addr → Value → Option Addr → TS))}, HdsAs X hds' l' → wAll X.K Wout D l' cls d σ' H' →
        wpAny (model
                X.prog X.w) X.A (handleBy (.ref a) X.env hds') (SP X pins D) X.xe { s' with heap := h3 } := by
      intro hds' l' hk
      induction hk with
      | nil =>
        intro w
        refine wpAny_handleBy_nil ?_
        (obtain ⟨k1, k2, k3, oe, vs, T, oT, ts', he, hz, hd, h1, hr⟩ := id fl3)
        unfold PySem.passOn
        (refine wpAny_bind (wpAny_field he hd h1 ?_))
        (rw [if_neg (show ¬ ((Value.ref T == Value.none) = true) from by simp)])
        have fin : wpAny (model
                X.prog X.w) X.A (setFlight (.ref a) X.env.frame) (fun _ s4 => wpAny (model X.prog X.w) X.A (throw (.ref a) : Sem Flow) (SP X pins D) X.xe s4) X.xe { s' with heap := h3 } := by
          rw [hf]
          (refine HandSPX.setFlight_upZ fl3 fun h4 hh4 up4 => wpAny_throw (tk _ _ ?_))
          (exact ⟨a, B, sI, pins, σ', H', cls, d, rfl, J, nb, (up.trans up3).trans up4, .inr (.inr (by rw [hs]; exact hh4)), na, os, ag, w⟩)
        first
          | exact wpAny_bind (wpAny_pure
                  (wpAny_bind fin))
          | exact wpAny_bind fin
      | @cons x n c i ts b₀ suite np pos' hds2 l2 hc hi hln hsu r ih =>
        intro w
        (obtain ⟨b, hb1, hyes, hno⟩ := w)
        (refine wpAny_handleBy_cons (codeAny_handlers_test ?_) (by intro q; cases q))
        (have LT : PySem.W.Looks (model X.prog X.w) h3 (typeOf (.ref a)) cls := fun A Q E s k q => wpAny_typeOf_ref (k _ _ he3) (by rw [hz3.1]; exact q))
        (have LM := PySem.W.exm_one (M := model X.prog X.w) (J3.kIn) LT hb1)
        have test : ∀ {Q
                : Value → Shared → Prop} {E : Value → Shared → Prop}, Q c { s' with heap := h3 } → wpAny (model X.prog X.w) (X.A.mark (some (.ref a))) (eval (.Name x np) X.env) Q E { s' with heap := h3 } := fun {Q E} q => by
          (obtain ⟨hg, hdbg, hm | ⟨hm, hv, hnn⟩⟩ := hc)
          · (exact ld_glob (X := X.suite a ((a, oe3) :: (X.pn ++ pins))) S3 hg hm q hdbg)
          · (exact ld_blt (X := X.suite a ((a, oe3) :: (X.pn ++ pins))) S3 hg hm hv q hnn hdbg)
        refine test (LM.here ?_)
        cases b with
        | true =>
          (refine codeAny_handlers_suite_as ?_)
          (refine HandSPX.lands_againZ fl3 fun h4 fl4 up4 => ?_)
          (have J4 : Inv X pins σ' H' { s' with heap := h4 } := J.landed nb fl4.1 ((up.trans up3).trans up4) os ag)
          (obtain ⟨oe4, vs4, he4, hz4, hd4⟩ := fl4.there)
          (have S4 := J4.suite he4 hd4 na nL nF)
          refine store_ok (X := X.suite a ((a, oe4) :: (X.pn ++ pins))) (v := .ref a) S4 hN hi (.inl hln) rfl (fun s5 S5 => ?_) (.inr hln)
          refine wpAny_mono ((hsu a oe4 cls d (X.pn ++ pins) hz4 ⟨_, hd4⟩).run [] s5 _ H' _ S5 (hyes rfl a na (by rw [J.len]; exact (List.getElem?_eq_some_iff.mp hi).1))) (fun f s6 hsp => ?_) (fun _ _ z => False.elim z)
          have over : ∀ {σ6 : L2.St} {H6 : Hp} {Q : Shared → Prop}, Inv (X.suite a ((a, oe4) :: (X.pn ++ pins))) [] σ6 H6 s6 → (∀ s7, Inv X pins (σ6.set i none) H6 s7 → Q s7) →
              wpAny (model
                      X.prog X.w) X.A (do bindName X.env n .none; unbindBehindTheSuite X.env n pos') (fun _ s7 => Q s7) X.xe s6 := fun {σ6 H6 Q} S6 hq => gone_ok (S6.unsuite ok) hN hi hln hq
          cases f with
          | next =>
            (obtain ⟨σ6, H6, S6, q6⟩ := hsp)
            exact over S6 fun s7 J7 => ⟨_, _, J7, q6⟩
          | brk =>
            (obtain ⟨σ6, H6, S6, q6⟩ := hsp)
            exact over S6 fun s7 J7 => ⟨_, _, J7, q6⟩
          | cont =>
            (obtain ⟨σ6, H6, S6, q6⟩ := hsp)
            exact over S6 fun s7 J7 => ⟨_, _, J7, q6⟩
          | ret u =>
            (obtain ⟨v6, σ6, H6, S6, r6, q6⟩ := hsp)
            exact over S6 fun s7 J7 => ⟨_, _, _, J7, r6, q6⟩
        | false =>
          show wpAny _ X.A (handleBy
                  (.ref a) X.env hds2) _ _ _
          exact ih (hno rfl)
    exact go hh w
  · cases f with
    | next =>
      obtain ⟨σ', H', J', q⟩ := hsp
      (exact wpAny_execs_nil ⟨σ', H', J'.ofTry ok, q⟩)
    | brk =>
      obtain ⟨σ', H', J', q⟩ := hsp
      (exact ⟨σ', H', J'.ofTry ok, q⟩)
    | cont =>
      obtain ⟨σ', H', J', q⟩ := hsp
      (exact ⟨σ', H', J'.ofTry ok, q⟩)
    | ret u =>
      (obtain ⟨v, σ', H', J', r, q⟩ := hsp)
      (exact ⟨v, σ', H', J'.ofTry ok, r, q⟩)
end
end Pu
/-! Pu25: defs that ask nothing of the guards; lambdas handed to a def that hears what they raise. -/
namespace Pu
open PySem PySem.Spec PyProof.Rows L2
/-! ### FnOk by meanings -/
theorem fnMO {P : Program} {w : World} {K : PySem.W.Frag} {mg : Str → Option Value} {base : Heap} {k : Nat} {f : Addr} {x qual : Str} {st : Stmt} {fd : FuncData} {N ps : List Str} {F : Fn} {m : M Fl}
    (U : Fun K x qual st f fd) (Sc : FnScope N ps (defScope st))
    (body : ∀ (cdv : Value) (A : Around) (outer : List Env) (s : Shared) (H : Hp) (E : XK), Room k (A.deeper (envOfC qual (defScope st) s.heap.objs.size f cdv)) →
      ESs (cxOf (L2.CX P w) P w K mg base N qual (defScope st) f cdv A outer s H E) (fun c d _ H => E c d H) (defBody st) m)
    (hf : ∀ β as r, as.length = ps.length → F β as = some r → runDef N.length m β as = some r) : FnOk P w K mg base (L2.CX P w) (k + 1) f fd ps (SpM K mg ps.length F) := by
  obtain ⟨oc, od, kV, doc, pm, an, cdv, ct, osl, rfl, lk, hcd⟩ := U.ex
  exact fn_of lk hcd Sc (fun vs H Q E h => by
    obtain ⟨ba, O, Hf, β, as, r, β', hn, R, a, ef, post⟩ := h
    rw [a.length, hn]) fun A outer s H vs Q E hr h => ⟨_, body cdv A outer s H E hr, def_conv hf h⟩
section
variable {X : Cx} {E : WX} {k : Nat} {f : Addr} {fd : FuncData} {ps : List Str} {F : Fn} {x : Str} {p pos : Pos} {e : Expr} {es : List Expr} {ms : List (M Rv)}
theorem ev_callO (G : FnOk X.prog X.w X.K X.mg X.base (L2.CX X.prog X.w) k f fd ps (SpM X.K X.mg ms.length F)) (hr : Room k X.A) (tk : Takes X E) (hg : Gl X x) (hm : X.mg x = some (.ref f)) (hk : PySem.W.keepIn X.K (.ref f) = true) (hb : Binds X.K fd ps [])
    (ha : EA X E (e :: es) ms) (hdb : (x == ("__debug__" : Str)) = false := by decide) (he : starEach (e :: es) X.env = (false, eval e X.env) :: starEach es X.env := by rfl) (hpl : (backTo pos (starEach es X.env)).any (·.1) = false := by rfl) :
    EV X E (.Call (.Name x p) (e :: es) [] pos) (mCall F ms) := by
  (refine ⟨fun pins s σ H Q I h => ?_⟩)
  (refine wpAny_Call_Name_kw (ld_glob I hg hm ?_ hdb))
  refine PySem.W.callWith_K (h₀ := X.base) I.ok.mod.kin hk (thn (ha.run pos pins s σ H _ I (call_ask h)) fun us s1 hz => ?_) he hpl
  obtain ⟨vs, H1, I1, r, q⟩ := hz
  refine ⟨I1.kIn, ?_⟩
  have hl : us.length = ps.length := by rw [← r.length]; exact G.len _ _ _ _ q
  have b := hb s1 us I1.kIn (by rw [List.append_nil]; exact hl)
  rw [List.append_nil] at b
  refine wpAny_call (codeAny_mono (G.run X.A X.stack s1 H1 ⟨us, []⟩ us vs Q (fun c d H' => E c d σ H') hr I1.env0 b r q) fun z s' hq => ?_)
  match z, hq with
  | .error e, hq => exact tk e s' (XE.of_call I1 (fun _ _ _ z => z) hq)
  | .ok (.ret u), hq => exact I1.after hq
end
/-! ### behind the making of a lambda -/
theorem Rep.tabs {K : PySem.W.Frag} {ba : Option Addr} {O Hf H H1 : Hp} {σ : L2.St} {s : S} (R : Rep K ba O Hf H σ s) (e : LamX.ExtN H H1) (T : LamX.Tabs (need K) H1) : Rep K ba O Hf H1 σ s := by
  refine ⟨⟨fun a o q => (R.reg.sub a o q).imp_right fun h => e a o h fun ps z => R.reg.tbs.hf a ps (by rw [q, z]), fun a o q => e a o (R.reg.out a o q) fun ps z => R.reg.tbs.ho a ps (by rw [q, z]), R.reg.dis, fun a q => ?_, ⟨fun p hp => ?_, R.reg.tbs.hf, R.reg.tbs.ho⟩, ⟨fun a n q => ?_, R.reg.obs.one⟩⟩, R.len, fun i sl x e1 e2 => ?_, R.uni⟩
  · obtain ⟨⟨c, h1, h2⟩, h3, h4⟩ := R.reg.bag a q
    exact ⟨⟨c, e a _ h1 lst_noT, h2⟩, h3, h4⟩
  · obtain ⟨_, h2, h3, h4⟩ := R.reg.tbs.tab p hp
    exact ⟨T p hp, h2, h3, h4⟩
  · obtain ⟨c, h1, h2⟩ := R.reg.obs.at_ a n q
    refine ⟨c, h1, ?_⟩
    cases c with
    | ins C fs => obtain ⟨dx, ws, k1, k2⟩ := h2; exact ⟨dx, ws, e a _ k1 fun ps z => (by cases z), k2⟩
    | lst ds => obtain ⟨vs, k1, k2⟩ := h2; exact ⟨vs, e a _ k1 lst_noT, k2⟩
    | dct kvs => obtain ⟨ws, k1, k2⟩ := h2; exact ⟨ws, e a _ k1 fun ps z => (by cases z), k2⟩
  · have q := R.slot i sl x e1 e2
    cases sl with
    | no => trivial
    | dat d => exact q
    | own es =>
      obtain ⟨b, q1, vs, h1, h2⟩ := q
      exact ⟨b, q1, vs, e b _ h1 lst_noT, h2⟩
    | bag => exact q
    | ob n => exact q
/-! ### a def that hears: try: return (told, act()) / except C as n: return (tag, n.f, ..) -/
/-- a clause: the class, its tag, its fields -/
structure Clause where
  cls : Str
  tag : Str
  fs : List Str
def saysOf (cs : List Clause) (x : Exn) : Option D := (cs.find? fun c => decide (c.cls = x.cls)).bind fun c => (c.fs.mapM fun f => x.fs.lookup f).map fun ds => .tuple (.str c.tag :: ds)
def mHeard (told : Str) (cs : List Clause) (mb : M Rv) : M Rv := fun s => match mb s with
  | some (s', .ok r) => (M.bind (retain r) fun d => M.pure (.dat (.tuple [.str told, d]))) s'
  | some (s', .error x) => (saysOf cs x).map fun d => (s', .ok (.dat d))
  | none => none
/-- what the clauses do -/
def hearAll (K : PySem.W.Frag) (mg : Str → Option Value) (Q : VK) : List Clause → Value → Option Addr → Hp → Prop
  | [], _, _, _ => False
  | c :: r, cls, d, H => ∃ C b, mg c.cls = some (.ref C) ∧ PySem.W.exmOne K cls (.ref C) = some b ∧ (b = true → cls = .ref C ∧ ∃ dd fvs vs, (c.fs ≠ [] → d = some dd ∧ H dd = some (.xd fvs)) ∧ (c.fs.mapM fun f => fvs.lookup f) = some vs ∧ ∀ p, H p = none → Q (.ref p) (upd H p (.tup (.str c.tag :: vs)))) ∧
      (b = false → hearAll K mg Q r cls d H)
def THeard (K : PySem.W.Frag) (mg : Str → Option Value) (told : Str) (cs : List Clause) : (XK → Hp → VK → Prop) → Hp → VK → Prop := fun tl H Q =>
  tl (fun cls d H' => hearAll K mg Q cs cls d H') H fun v H1 => [V.str told, v].length ≤ sizeLine ∧ ∀ p, H1 p = none → Q (.ref p) (upd H1 p (.tup [.str told, v]))
theorem mapM_rp {K : PySem.W.Frag} {Hf : Hp} {fs : List (Str × D)} {fvs : List (Str × V)} (lk : ∀ (f : Str) (d : D), fs.lookup f = some d → ∃ v, fvs.lookup f = some v ∧ Rp K Hf d v) : ∀ {l : List Str} {ds : List D}, (l.mapM fun f => fs.lookup f) = some ds → ∃ vs, (l.mapM fun f => fvs.lookup f) = some vs ∧ RpL K Hf ds vs
  | [], ds, e => by
    cases e
    exact ⟨[], rfl, RpL.nil⟩
  | f :: l, ds, e => by
    rw [List.mapM_cons] at e
    cases q : fs.lookup f with
    | none => (rw [q] at e; cases e)
    | some d =>
      rw [q] at e
      cases q2 : (l.mapM fun f => fs.lookup f) with
      | none => rw [q2] at e; cases e
      | some ds' =>
        rw [q2] at e
        cases e
        obtain ⟨v, e1, r1⟩ := lk f d q
        obtain ⟨vs, e2, r2⟩ := mapM_rp lk q2
        exact ⟨v :: vs, by rw [List.mapM_cons, e1, e2]; rfl, RpL.cons r1 r2⟩
theorem lookup_cons {α : Type} (f g : Str) (y : α) (l : List (Str × α)) : ((f, y) :: l).lookup g = if g = f then some y else l.lookup g := by
  by_cases h : g = f
  · rw [if_pos h, h]; simp [List.lookup]
  · rw [if_neg h]
    have e : (g == f) = false := by simpa using h
    simp [List.lookup, e]
theorem field_rp {K : PySem.W.Frag} {Hf : Hp} {f : Str} : ∀ {fs : List (Str × D)} {fvs : List (Str × V)} {d : D}, fvs.map (·.1) = fs.map (·.1) → RpL K Hf (fs.map (·.2)) (fvs.map (·.2)) → fs.lookup f = some d → ∃ v, fvs.lookup f = some v ∧ Rp K Hf d v
  | [], _, _, _, _, e => by cases e
  | (n, d) :: fs, [], _, e, _, _ => by cases e
  | (n, d) :: fs, (m, v) :: fvs, d', e, r, l => by
    obtain ⟨w, t, e2, r1, r2⟩ := r.cons_inv
    have e' := List.cons.inj e
    have e2' := List.cons.inj e2
    have hn : m = n := e'.1
    have hv : v = w := e2'.1
    subst hn hv
    rw [lookup_cons] at l ⊢
    by_cases h : f = m
    · rw [if_pos h] at l ⊢
      cases l
      exact ⟨v, rfl, r1⟩
    · rw [if_neg h] at l ⊢
      have e3 : t = fvs.map (·.2) := e2'.2.symm
      rw [e3] at r2
      exact field_rp e'.2 r2 l
/-- the module's classes, told apart -/
def Apart (K : PySem.W.Frag) (mg : Str → Option Value) (cs : List Clause) : Prop := ∀ c ∈ cs, ∀ c' ∈ cs, ∃ C C', mg c.cls = some (.ref C) ∧ mg c'.cls = some (.ref C') ∧ PySem.W.exmOne K (.ref C) (.ref C') = some (decide (c.cls = c'.cls))
theorem hear_of {K : PySem.W.Frag} {mg : Str → Option Value} {Q : VK} {Hf H : Hp} {cls : Value} {d : Option Addr} {x : Exn} (ex : ExOk K mg Hf H x cls d) (all : List Clause) (ap : Apart K mg all) : ∀ (cs : List Clause) (dd : D), (∀ c ∈ cs, c ∈ all) → (∃ c ∈ all, c.cls = x.cls) → saysOf cs x = some dd →
    (∀ tag ds vs, dd = .tuple (.str tag :: ds) → RpL K Hf ds vs → ∀ p, H p = none → Q (.ref p) (upd H p (.tup (.str tag :: vs)))) → hearAll K mg Q cs cls d H
  | [], dd, _, _, e, _ => by cases e
  | c :: r, dd, hin, ⟨c0, hc0, ec0⟩, e, q => by
    obtain ⟨C0, C, m0, m1, h⟩ := ap c0 hc0 c (hin c List.mem_cons_self)
    have ec : cls = .ref C0 := by
      have z := ex.1
      rw [← ec0, m0] at z
      exact (Option.some.inj z).symm
    subst ec
    refine ⟨C, _, m1, h, fun hb => ?_, fun hb => ?_⟩
    · have same : c0.cls = c.cls := of_decide_eq_true hb
      have hcx : c.cls = x.cls := same.symm.trans ec0
      have eC : C0 = C := by
        rw [same, m1] at m0
        cases m0
        rfl
      refine ⟨by rw [eC], ?_⟩
      unfold saysOf at e
      rw [List.find?_cons, decide_eq_true hcx] at e
      obtain ⟨ds, e1, e2⟩ := Option.map_eq_some_iff.mp (show ((c.fs.mapM fun f => x.fs.lookup f).map fun ds => PyData.tuple (.str c.tag :: ds)) = some dd from e)
      cases hx : x.fs with
      | nil =>
        have hl : c.fs = [] := by
          cases hq : c.fs with
          | nil => rfl
          | cons f l =>
            rw [hq, hx, List.mapM_cons] at e1
            cases e1
        refine ⟨0, [], [], fun z => absurd hl z, by rw [hl]; rfl, ?_⟩
        have : ds = [] := by
          rw [hl] at e1
          cases e1
          rfl
        subst this
        exact q c.tag [] [] e2.symm RpL.nil
      | cons a b =>
        have ex2 := ex.2
        rw [hx] at ex2
        obtain ⟨de, fvs, hd, hH, hn, hr⟩ := ex2
        rw [hx] at e1
        obtain ⟨vs, ev, rv⟩ := mapM_rp (fun f d l => field_rp hn hr l) e1
        exact ⟨de, fvs, vs, fun _ => ⟨hd, hH⟩, ev, q c.tag ds vs e2.symm rv⟩
    · have nsame : ¬ c0.cls = c.cls := of_decide_eq_false hb
      have hcx : ¬ c.cls = x.cls := fun z => nsame (ec0.trans z.symm)
      unfold saysOf at e
      rw [List.find?_cons, decide_eq_false hcx] at e
      exact hear_of ex all ap r dd (fun c hc => hin c (List.mem_cons_of_mem _ hc)) ⟨c0, hc0, ec0⟩ e q
end Pu
/-! Pu26: x(lambda: e), where x tells what e gives or raises. -/
namespace Pu
open PySem PySem.Spec PyProof.Rows L2 LamX
theorem heard_conv {K : PySem.W.Frag} {mg : Str → Option Value} {E : WX} {told : Str} {cs : List Clause} {mb : M Rv} {σ : L2.St} {H : Hp} {Q : VK} (ap : Apart K mg cs) (q : tM K mg E (mHeard told cs mb) σ H Q) :
    tLam (need K) (THeard K mg told cs) (fun E' => tM K mg (fun c d _ H => E' c d H) mb) σ H Q := by
  obtain ⟨ba, O, Hf, s, R, F⟩ := q
  refine ⟨fun p hp => (R.reg.tbs.tab p hp).1, fun H1 e T => ⟨ba, O, Hf, s, R.tabs e T, ?_⟩⟩
  unfold mHeard at F
  cases em : mb s with
  | none => rw [em] at F; exact F.elim
  | some z =>
    obtain ⟨s', r⟩ := z
    rw [em] at F
    cases r with
    | ok r =>
      intro v H' Hf' R' e' ok'
      refine ⟨by show 2 ≤ sizeLine; rw [sizeLine_eq]; omega, fun p hp => ?_⟩
      obtain ⟨d, s2, Hf2, F2, e2, R2, p2⟩ := retain_ok R' ok' F.bind
      have f1 : Hf2 p = none := (R2.reg.free hp).1
      have F3 : ∀ v H' Hf', Rep K ba O Hf' H' σ s2 → Same Hf Hf' → RvOk K ba O Hf' H' σ s2 (.dat (.tuple [.str told, d])) v → Q v H' := F2
      refine F3 (.ref p) _ _ (R2.lay (o := .tup [.str told, v]) hp) (Same.trans e' (Same.trans e2 (Same.updN f1))) ?_
      show Rp K _ (.tuple [.str told, d]) (.ref p)
      simp only [Rp]
      exact ⟨p, _, rfl, SqT.of upd_same, RpL.cons str_rp (RpL.cons (Rp.mono (Same.updN f1) _ _ p2) RpL.nil)⟩
    | error x =>
      intro H' Hf' c d R' e' ex
      cases es : saysOf cs x with
      | none => simp only [es] at F; exact F.elim
      | some dd =>
        simp only [es] at F
        have F3 : ∀ v H' Hf', Rep K ba O Hf' H' σ s' → Same Hf Hf' → RvOk K ba O Hf' H' σ s' (.dat dd) v → Q v H' := F
        have hex : ∃ c ∈ cs, c.cls = x.cls := by
          unfold saysOf at es
          obtain ⟨c0, h0, _⟩ := Option.bind_eq_some_iff.mp es
          exact ⟨c0, List.mem_of_find?_eq_some h0, by simpa using List.find?_some h0⟩
        refine hear_of ex cs ap cs dd (fun _ h => h) hex es fun tag ds vs hd rl p hp => ?_
        have f1 : Hf' p = none := (R'.reg.free hp).1
        refine F3 (.ref p) _ _ (R'.lay (o := .tup (.str tag :: vs)) hp) (Same.trans e' (Same.updN f1)) ?_
        show Rp K _ dd (.ref p)
        rw [hd]
        simp only [Rp]
        exact ⟨p, _, rfl, SqT.of upd_same, RpL.cons str_rp (RpL.mono (Same.updN f1) _ _ rl)⟩
/-- the fields of the caught exception -/
def tFs (a : Addr) (cls : Value) (d : Option Addr) (C : Addr) (i : Nat) : List Str → TA
  | [] => tNil
  | f :: l => tCons (tXf a cls d C f (tVar i)) (tFs a cls d C i l)
def tsC (ad : Str → Addr) (i : Nat) (c : Clause) : Addr → Value → Option Addr → TS := fun a cls d => tRet (tTup (tCons (tC (.str c.tag)) (tFs a cls d (ad c.cls) i c.fs)))
theorem fs_read {a C : Addr} {cls : Value} {d : Option Addr} {i : Nat} {σ : L2.St} {H : Hp} {dd : Addr} {fvs : List (Str × V)} (hs : σ[i]? = some (some (.ref a))) (hc : cls = .ref C) : ∀ (fs : List Str) (vs : List V) (Q : List V → Hp → Prop), (fs ≠ [] → d = some dd ∧ H dd = some (.xd fvs)) →
    (fs.mapM fun f => fvs.lookup f) = some vs → Q vs H → tFs a cls d C i fs σ H Q
  | [], vs, Q, _, e, q => by
    cases e
    exact q
  | f :: l, vs, Q, hd, e, q => by
    obtain ⟨h1, h2⟩ := hd (by simp)
    rw [List.mapM_cons] at e
    cases e1 : fvs.lookup f with
    | none => rw [e1] at e; cases e
    | some v =>
      rw [e1] at e
      cases e2 : (l.mapM fun f => fvs.lookup f) with
      | none => rw [e2] at e; cases e
      | some vs' =>
        rw [e2] at e
        cases e
        exact ⟨_, hs, rfl, hc, dd, fvs, v, h1, h2, e1, fs_read hs hc l vs' _ (fun _ => ⟨h1, h2⟩) e2 q⟩
theorem mapM_len {α β : Type} {f : α → Option β} : ∀ {l : List α} {vs : List β}, l.mapM f = some vs → vs.length = l.length
  | [], vs, e => by cases e; rfl
  | x :: l, vs, e => by
    rw [List.mapM_cons] at e
    cases e1 : f x with
    | none => rw [e1] at e; cases e
    | some v =>
      rw [e1] at e
      cases e2 : l.mapM f with
      | none => rw [e2] at e; cases e
      | some vs' =>
        rw [e2] at e
        cases e
        simp [mapM_len e2]
theorem hear_wAll {K : PySem.W.Frag} {mg : Str → Option Value} {Q : VK} {D : Ends} {cls : Value} {d : Option Addr} {σ : L2.St} {H : Hp} {i : Nat} {ad : Str → Addr} (hD : D.rt = Q) : ∀ (cs : List Clause), (∀ c ∈ cs, mg c.cls = some (.ref (ad c.cls)) ∧ c.fs.length ≤ 60) → hearAll K mg Q cs cls d H →
    wAll K (fun _ _ _ _ => False) D (cs.map fun c => (.ref (ad c.cls), i, tsC ad i c)) cls d σ H
  | [], _, h => h.elim
  | c :: r, hm, h => by
    obtain ⟨C, b, m, e, yes, no⟩ := h
    obtain ⟨m1, l1⟩ := hm c List.mem_cons_self
    have eC : C = ad c.cls := by
      rw [m] at m1
      cases m1
      rfl
    subst eC
    refine ⟨b, e, fun hb a ha hi => ?_, fun hb => hear_wAll hD r (fun c hc => hm c (List.mem_cons_of_mem _ hc)) (no hb)⟩
    obtain ⟨hc, dd, fvs, vs, hd, ev, q⟩ := yes hb
    have hl := mapM_len ev
    refine fs_read (dd := dd) (fvs := fvs) (by rw [List.getElem?_set_self hi]) hc c.fs vs _ hd ev ⟨?_, fun p hp => ?_⟩
    · rw [List.length_cons, hl, sizeLine_eq]
      omega
    · show D.rt (.ref p) _
      rw [hD]
      exact q p hp
section
variable {X : Cx}
theorem gives_heard {Ng : List Str} {x a q told : Str} {sg : Scope} {g : Addr} {cdg : Value} {j kt i : Nat} {pc p1 p2 p3 p8 pt : Pos} {h₀ : ExceptHandler} {hs : List ExceptHandler} {cs : List Clause} {ad : Str → Addr} (hNd : Ng.Nodup) (h0 : ∀ f : Addr, (L2.start Ng [V.ref f])[0]? = some (some (V.ref f)))
    (hm : ∀ c ∈ cs, X.mg c.cls = some (.ref (ad c.cls)) ∧ c.fs.length ≤ 60)
    (hh : ∀ (s : Shared) (H : Hp), HdsAs (cxOf C8.CX0 X.prog X.w X.K X.mg X.base Ng x sg g cdg X.A X.stack s H C8.E0).nox (h₀ :: hs) (cs.map fun c => (.ref (ad c.cls), i, tsC ad i c))) :
    GivesTo X Ng x sg g cdg [.Try [.Return (some (.Tuple [.Constant (.str told) j pc, .Call (.Name a p1) [] [] p2] kt pt)) p3] (h₀ :: hs) [] [] p8] a q (THeard X.K X.mg told cs) := by
  intro f c' s H Q tl act hc h
  refine ⟨_, pss_one (ps_tryN (X := (cxOf C8.CX0 X.prog X.w X.K X.mg X.base Ng x sg g cdg X.A X.stack s H C8.E0).nox)
      (tb := fun W D σ H => ∃ Ech : XK, (∀ cls d σ' H', Ech cls d H' → W cls d σ' H') ∧ σ[0]? = some (some (.ref f)) ∧ H c' = some (CodeO c' q) ∧ tl Ech H fun v H1 => [V.str told, v].length ≤ sizeLine ∧ ∀ p, H1 p = none → D.rt (.ref p) (upd H1 p (.tup [.str told, v])))
      rfl rfl hNd LamX.takes0 (fun W pn xe tk _ => ?_) (hh s H)), ?_⟩
  · refine ⟨fun
          pins s' σ H' D I h' => ?_⟩
    obtain ⟨Ech, hW, k1, k2, k3⟩ := h'
    (have hp := act W pn xe Ech p1 p2 tk hW)
    have hq := pss_one (ps_ret (pos := p3) (pe_tup (x1 := kt) (pos := pt) (pa_cons (pe_str (x := told) (j := j) (pos := pc)) (pa_cons hp pa_nil))))
    exact hq.run pins s' σ H' D I ⟨k1, k2, k3⟩
  · exact ⟨fun cls d H' => hearAll X.K X.mg Q cs cls d H', fun cls d σ' H' hh' => hear_wAll rfl cs hm hh', h0 f, hc, h⟩
end
end Pu
/-! Pu27: the rule for x(lambda: e). -/
namespace Pu
open PySem PySem.Spec PyProof.Rows L2 LamX
theorem code_at {K : PySem.W.Frag} {x : Str} {cdv : Value} (h : HasCode K (He.ga K x) cdv) : cdv = .ref (He.cT K (x, none)).1 := by
  obtain ⟨oc, od, osl, fd, c, lk, e, rfl⟩ := h
  have := He.codeOf_eq (K := K) (p := (x, none)) (show K.lookup (He.fAd K (x, none)) = some ⟨oc, od, .func fd, osl⟩ from lk) e
  show _ = Value.ref (He.codeOf K (x, none))
  rw [this]
section
variable {X : Cx} {E : WX}
theorem ev_heard {x a told q : Str} {g c P : Addr} {k : Nat} {st : Stmt} {fd : FuncData} {Ng : List Str} {params : Arguments} {body : Expr} {scope : Scope} {mb : M Rv} {cs : List Clause} {p lpos pos : Pos} (U : Fun X.K x x st g fd) (hg : Gl X x) (hm : X.mg x = some (.ref g)) (hk : PySem.W.keepIn X.K (.ref g) = true)
    (hb : L2.Binds X.K fd [a] []) (Sg : FnScope Ng [a] (defScope st)) (hNg : Ng[0]? = some a) (hva : Vis (defScope st) a) (ap : Apart X.K X.mg cs)
    (hG : ∀ cdv : Value, GivesTo X Ng x (defScope st) g cdv (defBody st) a q (THeard X.K X.mg told cs))
    (hq : X.env.qual ++ "<lambda>" = q) (TB : TabB X.base X.mg c P) (hcode : X.env.code = .ref c) (hmT : (P, q) ∈ need X.K) (hu : ∀ p ∈ need X.K, p.1 = P → p.2 = q) (hr : Room (k + 2) X.A) (L : LamS X.env.scope scope) (hdef : defaultsOf params X.env = ([], []))
    (hbind : ∀
            (q : Str) (cl : List (Str × Addr)) (pm cv ctv : Value), bindArgs (PySem.W.kla_fn "<lambda>" q params body scope cl pm cv ctv) ⟨[], []⟩ = pure [])
    (hbody : ∀ (A : Around) (outer : List Env) (s : Shared) (H : Hp) (E : XK) (f c' : Addr), Room k (A.deeper (lamEnv X scope s.heap.objs.size f c')) → EV (lamCx X A outer s H E scope f c') (fun c d _ H => E c d H) body mb)
    (hdb : (x
            == ("__debug__" : Str)) = false := by decide) (hd : (a == ("__debug__" : Str)) = false := by decide) (hcd : (a == ("__classdict__" : Str)) = false := by decide) :
    EV X E (.Call (.Name x p) [.Lambda params body scope lpos] [] pos) (mHeard told cs mb) := by
  subst hq
  obtain ⟨oc, od, kV, doc, pm, an, cdv, ct, osl, rfl, lk, hcg⟩ := U.ex
  exact PE.conv (pe_lamcall (T := need X.K) (t := fun E' => tM X.K X.mg (fun c d _ H => E' c d H) mb) hg hm hk lk hcg hb Sg hNg hva (hG cdv) TB hcode hmT hu hr L hdef hbind hbody hdb hd hcd) fun σ H Q q => heard_conv ap q
end
end Pu
/-! Pu28: len of a dict too. -/
namespace Pu
open PySem PySem.Spec PyProof.Rows L2
section
variable {X : Cx}
abbrev rLenD (K : PySem.W.Frag) : List V → Hp → VK → Prop := fun vs H Q => (∃ x n, vs = [x] ∧ LenV K x H n ∧ Q (.int n) H) ∨ ∃ (a : Addr) (kvs : List (Key × V)), vs = [.ref a] ∧ H a = some (.dK kvs) ∧ Q (.int kvs.length) H
theorem call_lenD : CallR X (.builtin "len") (rLenD X.K) := by
  (intro pins s σ H vs us Q I r h)
  rcases h with h | ⟨a, kvs, rfl, e, q⟩
  · exact call_len pins s σ H vs us Q I r h
  · obtain rfl := Vals.ref1 r
    exact d_len I (.inl e) fun t s' I' => ⟨.int kvs.length, H, I', ⟨t, rfl⟩, q⟩
def dLenD : D → Option Rs
  | .dict kvs => some (.dat (.int kvs.length))
  | d => dLen d
theorem o1_lenD : Op1 X.K (fun v => rLenD X.K [v]) dLenD := by
  intro Hf H d x res Q e b er q
  cases d with
  | dict kvs =>
    cases er
    obtain ⟨a, ws, rfl, h1, h2⟩ := brp_dict e b
    exact .inr ⟨a, ws, rfl, h1, by rw [h2.length]; exact q _ _ (.old (by simp only [Rp]))⟩
  | _ => exact .inl (o1_len Hf H _ x res Q e b er q)
/-- a def that is never asked -/
theorem fnG_none {P : Program} {w : World} {K : PySem.W.Frag} {mg : Str → Option Value} {base : Heap} {k n : Nat} {f : Addr} {fd : FuncData} {ps : List Str} : FnG P w K mg base (L2.CX P w) k f fd ps (SpM K mg n fun _ _ => none) where
  len := fun vs H Q E h => by
    obtain ⟨_, _, _, _, _, _, _, _, _, _, e, _⟩ := h
    cases e
  go := fun A outer s H args us vs Q E _ _ _ _ _ h => by
    obtain ⟨_, _, _, _, _, _, _, _, _, _, e, _⟩ := h
    cases e
end
/-! ### x, y, z = a, b, c of data -/
def setD3 (i j l : Nat) : List D → M Fl
  | [a, b, c] => fun s => some ({ s with ρ := ((s.ρ.set i (.dat a)).set j (.dat b)).set l (.dat c) }, .ok .nx)
  | _ => M.stuck
def mPar3 (i j l : Nat) (ms : List (M Rv)) : M Fl := M.bind (mArgs ms) fun as => M.bind (M.lift (datsOf as)) fun ds => setD3 i j l ds
section
variable {X : Cx} {E : WX}
theorem es_par3 {i j l : Nat} {x y z : Str} {a b c : Expr} {m1 m2 m3 : M Rv} {px py pz pt pos : Pos} {kt k2 pt2} (hc : X.calm = true) (hN : X.N.Nodup) (hi : X.N[i]? = some x) (hj : X.N[j]? = some y) (hl : X.N[l]? = some z) (hij : i ≠ j) (hil : i ≠ l) (hjl : j ≠ l)
    (hx : X.env.scope.names.lookup x = some .local) (hy : X.env.scope.names.lookup y = some .local) (hz : X.env.scope.names.lookup z = some .local) (ha : EA X E [a, b, c] [m1, m2, m3])
    (hw : swappedStores
            [.Tuple [.Name x px, .Name y py, .Name z pz] kt pt] (.Tuple [a, b, c] k2 pt2) X.env = pure (some [x, y, z]))
    (hs : swapsWithSole
            [.Tuple [.Name x px, .Name y py, .Name z pz] kt pt] (.Tuple [a, b, c] k2 pt2) pos.line X.env = pure false := by rfl) :
    ES X E (.Assign [.Tuple [.Name x px, .Name y py, .Name z pz] kt pt] (.Tuple [a, b, c] k2 pt2) pos) (mPar3 i j l [m1, m2, m3]) :=
  PS.conv (ps_par3 hc hN hi hj hl hij hil hjl hx hy hz ha hw hs) fun D σ H q => by
    obtain ⟨ba, O, Hf, s, R0, F⟩ := q
    refine ⟨ba, O, Hf, s, R0, (mArgs_len F.bind).imp (fun as s1 F1 vs H1 Hf1 R1 e1 ok1 => ?_) fun x s' q => ExS.at q⟩
    obtain ⟨ln, F1⟩ := F1
    obtain ⟨ds, ed, F2⟩ := F1.bind.lift
    have rl := dats_rp ok1 ed
    match ds, rl, F2 with
    | [d1, d2, d3], rl, F2 =>
      obtain ⟨v1, t1, rfl, r1, q1⟩ := rl.cons_inv
      obtain ⟨v2, t2, rfl, r2, q2⟩ := q1.cons_inv
      obtain ⟨v3, t3, rfl, r3, q3⟩ := q2.cons_inv
      obtain rfl := q3.nil_inv
      refine ⟨v1, v2, v3, rfl, ?_⟩
      have S1 := R1.store (i := i) (sl := .dat d1) (v := v1) ⟨v1, rfl, r1⟩ fun ds z => nomatch z
      have S2 := S1.store (i := j) (sl := .dat d2) (v := v2) ⟨v2, rfl, r2⟩ fun ds z => nomatch z
      have S3 := S2.store (i := l) (sl := .dat d3) (v := v3) ⟨v3, rfl, r3⟩ fun ds z => nomatch z
      have F3 : ∀ σ' H' Hf', Rep X.K ba O Hf' H' σ' { s1 with ρ := ((s1.ρ.set i (.dat d1)).set j (.dat d2)).set l (.dat d3) } → Same Hf Hf' → EndOk X.K ba O Hf' H' σ' _ D .nx := F2
      exact F3 _ H1 Hf1 S3 e1
    | [], _, F2 => exact F2.elim
    | [_], _, F2 => exact F2.elim
    | [_, _], _, F2 => exact F2.elim
    | _ :: _ :: _ :: _ :: _, _, F2 => exact F2.elim
end
/-! ### is not None, is None -/
def isNonD : D → Bool
  | .none => true
  | _ => false
theorem isNon_rp {K : PySem.W.Frag} {Hf H : Hp} {d : D} {x : V} (e : Sub Hf H) (b : BRp K Hf H d x) : decide (x = .non) = isNonD d := by
  cases d with
  | none => obtain rfl := brp_non b; rfl
  | bool k => obtain rfl := brp_bl b; rfl
  | int k => obtain rfl := brp_int b; rfl
  | str k => obtain rfl := brp_str b; rfl
  | list ds => obtain ⟨a, vs, rfl, _⟩ := brp_list e b; rfl
  | tuple ds => obtain ⟨a, vs, rfl, _⟩ := brp_tup e b; rfl
  | dict kvs => obtain ⟨a, ws, rfl, _⟩ := brp_dict e b; rfl
def cIsN (a b : D) : Option Rs := if isNonD b then some (.dat (.bool (isNonD a))) else none
def cNotN (a b : D) : Option Rs := if isNonD b then some (.dat (.bool (!isNonD a))) else none
theorem non_rp {K : PySem.W.Frag} {Hf H : Hp} {d : D} {y : V} (b : BRp K Hf H d y) (h : isNonD d = true) : y = .non := by
  cases d with
  | none => exact brp_non b
  | _ => cases h
theorem op2_isN {K : PySem.W.Frag} : Op2 K (fun x y H Q => y = .non ∧ Q (.bl (decide (x = .non))) H) cIsN := by
  intro Hf H d1 d2 x y res Q e b1 b2 er q
  unfold cIsN at er
  split at er
  · rename_i h
    cases er
    exact ⟨non_rp b2 h, by rw [isNon_rp e b1]; exact q _ _ (.old bl_rp)⟩
  · cases er
theorem op2_notN {K : PySem.W.Frag} : Op2 K (fun x y H Q => y = .non ∧ Q (.bl (!decide (x = .non))) H) cNotN := by
  intro Hf H d1 d2 x y res Q e b1 b2 er q
  unfold cNotN at er
  split at er
  · rename_i h
    cases er
    exact ⟨non_rp b2 h, by rw [isNon_rp e b1]; exact q _ _ (.old bl_rp)⟩
  · cases er
/-! ### list(range(n)) -/
def dRgL : D → Option Rs
  | .int j => if -(2 ^ 62) ≤ j ∧ j ≤ 2 ^ 24 then some (.fresh (rangeD 0 j.toNat)) else none
  | _ => none
theorem RpL.range {K : PySem.W.Frag} {H : Hp} (lo : Int) : ∀ l : List Nat, RpL K H (l.map fun (i : Nat) => PyData.int (lo + i)) (l.map fun i => V.int (lo + (i : Nat)))
  | [] => RpL.nil
  | i :: l => RpL.cons int_rp (RpL.range lo l)
section
variable {X : Cx} {E : WX}
theorem ev_rgL {a : Expr} {m : M Rv} {p p2 pos pos2 : Pos} (hc : X.calm = true) (hg : Gl X "list") (hm : X.mg "list" = none) (hg2 : Gl X "range") (hm2 : X.mg "range" = none) (ha : EV X E a m) (na : starEach [a] X.env = (false, eval a X.env) :: starEach [] X.env := by rfl)
    (na2 : starEach [.Call (.Name "range" p2) [a] [] pos2] X.env = (false, eval (.Call (.Name "range" p2) [a] [] pos2) X.env) :: starEach [] X.env := by rfl) : EV X E (.Call (.Name "list" p) [.Call (.Name "range" p2) [a] [] pos2] [] pos) (mUn dRgL m) :=
  PE.conv (pe_listRg hc hg hm (prg_1 hg2 hm2 ha na) na2) fun σ H Q q => un_conv (r := fun x H1 Q => ∃ b, x = .int b ∧ RgOk 0 b ∧ ∀ q, H1 q = none → Q (.ref q) (upd H1 q (.lst (rgV 0 b)))) (fun Hf H d x res Q e b er q => by
    cases d with
    | int j =>
      unfold dRgL at er
      simp only at er
      split at er
      · rename_i hj
        cases er
        obtain rfl := brp_int b
        refine ⟨j, rfl, ⟨by omega, by omega, hj.1, by omega, by omega⟩, fun p hp => q _ _ (.lst hp ?_)⟩
        unfold rangeD rgV
        rw [show j - 0 = j by omega]
        exact RpL.range 0 _
      · cases er
    | _ => cases er) q
end
end Pu
/-! Pu30: the store: own objects, their fields, lists and dicts that are written in place. -/
namespace Pu
open PySem PySem.Spec PyProof.Rows L2
section
variable {K : PySem.W.Frag} {ba : Option Addr} {O Hf H : Hp} {σ : L2.St} {s : S} {p : Addr} {o o' : HO} {c : Cell} {n : Nat}
def S.addCell (s : S) (c : Cell) : S := { s with β := { s.β with os := s.β.os ++ [c] } }
def S.putCell (s : S) (n : Nat) (c : Cell) : S := { s with β := { s.β with os := s.β.os.set n c } }
/-- something that nobody holds becomes a cell -/
theorem Rep.mark (R : Rep K ba O Hf H σ s) (h : H p = some o) (hf : Hf p = none) (ho : O p = none) (hb : ba ≠ some p) (hu : ∀ (i : Nat) es, s.ρ[i]? = some (.own es) → σ[i]? ≠ some (some (.ref p)))
    (hc : CellAt K (upd Hf p (Pu.mk s.β.os.length)) H p c) (hn : NoT o := by intro ps z; cases z) : Same Hf (upd Hf p (Pu.mk s.β.os.length)) ∧ Rep K ba O (upd Hf p (Pu.mk s.β.os.length)) H σ (s.addCell c) := by
  have sm : Same Hf (upd Hf p (Pu.mk s.β.os.length)) := Same.updN hf
  refine ⟨sm, ⟨⟨fun a x e => ?_, R.reg.out, fun a q => ?_, fun a e => ?_, R.reg.tbs.lock h hn (fun ps z => by cases z), ⟨fun a k e => ?_, fun a b k e1 e2 => ?_⟩⟩, R.len, fun i sl x e1 e2 => ?_, R.uni⟩⟩
  · by_cases z : a = p
    · rw [z, upd_same] at e
      exact .inl ⟨_, (Option.some.inj e).symm⟩
    · rw [upd_ne z] at e
      exact R.reg.sub a x e
  · by_cases z : a = p
    · rw [z]; exact ho
    · rw [upd_ne z] at q
      exact R.reg.dis a q
  · obtain ⟨⟨c', k1, k2⟩, k3, k4⟩ := R.reg.bag a e
    have ne : a ≠ p := fun z => hb (z ▸ e)
    exact ⟨⟨c', k1, Rp.mono sm _ _ k2⟩, by rw [upd_ne ne]; exact k3, k4⟩
  · by_cases z : a = p
    · rw [z, upd_same] at e
      have e' := mk_inj (Option.some.inj e)
      rw [z]
      refine ⟨c, ?_, hc⟩
      show (s.β.os ++ [c])[k]? = some c
      rw [← e']
      simp
    · rw [upd_ne z] at e
      obtain ⟨c', h1, h2⟩ := R.reg.obs.at_ a k e
      refine ⟨c', ?_, h2.mono sm⟩
      show (s.β.os ++ [c])[k]? = some c'
      rw [List.getElem?_append_left (List.getElem?_eq_some_iff.mp h1).1]
      exact h1
  · have old : ∀ {a : Addr} {k : Nat}, a ≠ p → upd Hf p (Pu.mk s.β.os.length) a = some (Pu.mk k) → Hf a = some (Pu.mk k) ∧ k < s.β.os.length := fun {a k} ne e => by
      rw [upd_ne ne] at e
      obtain ⟨c', h1, _⟩ := R.reg.obs.at_ a k e
      exact ⟨e, (List.getElem?_eq_some_iff.mp h1).1⟩
    have new : ∀ {a : Addr} {k : Nat}, a = p → upd Hf p (Pu.mk s.β.os.length) a = some (Pu.mk k) → k = s.β.os.length := fun {a k} z e => by
      rw [z, upd_same] at e
      exact (mk_inj (Option.some.inj e)).symm
    by_cases za : a = p
    · by_cases zb : b = p
      · rw [za, zb]
      · have := new za e1
        have := (old zb e2).2
        omega
    · by_cases zb : b = p
      · have := new zb e2
        have := (old za e1).2
        omega
      · exact R.reg.obs.one a b k (old za e1).1 (old zb e2).1
  · have q := R.slot i sl x e1 e2
    cases sl with
    | no => trivial
    | dat d => obtain ⟨w, q1, q2⟩ := q; exact ⟨w, q1, Rp.mono sm _ _ q2⟩
    | own es =>
      obtain ⟨b, q1, vs, k1, k2, k3, k4, k5⟩ := q
      have ne : b ≠ p := fun z => hu i es e1 (by rw [e2, q1, z])
      exact ⟨b, q1, vs, k1, by rw [upd_ne ne]; exact k2, k3, k4, RpL.mono sm _ _ k5⟩
    | bag => exact q
    | ob n => obtain ⟨b, q1, q2⟩ := q; exact ⟨b, q1, sm _ _ q2⟩
/-- a cell is written -/
theorem Rep.putCell (R : Rep K ba O Hf H σ s) (hm : Hf p = some (Pu.mk n)) (h : H p = some o) (hc : CellAt K Hf (upd H p o') p c) (hn : NoT o := by intro ps z; cases z) (hk : NoC p o := by intro q z; unfold LamX.CodeO at z; cases z) :
    Rep K ba O Hf (upd H p o') σ (s.putCell n c) := by
  have hO : O p = none := R.reg.dis p (by rw [hm]; simp)
  obtain ⟨c0, hc0, _⟩ := R.reg.obs.at_ p n hm
  have hl : n < s.β.os.length := (List.getElem?_eq_some_iff.mp hc0).1
  refine ⟨⟨fun a x e => ?_, fun a x e => ?_, R.reg.dis, fun a e => ?_, R.reg.tbs.put h hn hk, ⟨fun a k e => ?_, R.reg.obs.one⟩⟩, R.len, fun i sl x e1 e2 => ?_, R.uni⟩
  · by_cases z : a = p
    · rw [z, hm] at e
      exact .inl ⟨n, (Option.some.inj e).symm⟩
    · rw [upd_ne z]
      exact R.reg.sub a x e
  · rw [upd_ne (ne_of_none e hO)]
    exact R.reg.out a x e
  · obtain ⟨⟨c', k1, k2⟩, k3, k4⟩ := R.reg.bag a e
    exact ⟨⟨c', by rw [upd_ne (fun z => by rw [z, hm] at k3; cases k3)]; exact k1, k2⟩, k3, k4⟩
  · by_cases z : a = p
    · rw [z, hm] at e
      have e' := mk_inj (Option.some.inj e)
      rw [z]
      refine ⟨c, ?_, hc⟩
      show (s.β.os.set n c)[k]? = some c
      rw [← e', List.getElem?_set_self hl]
    · obtain ⟨c', h1, h2⟩ := R.reg.obs.at_ a k e
      refine ⟨c', ?_, h2.off z⟩
      show (s.β.os.set n c)[k]? = some c'
      rw [List.getElem?_set_ne fun w => z (R.reg.obs.one a p n (by rw [w]; exact e) hm)]
      exact h1
  · have q := R.slot i sl x e1 e2
    cases sl with
    | no => trivial
    | dat d => exact q
    | own es =>
      obtain ⟨b, q1, vs, k1, k2, k3⟩ := q
      exact ⟨b, q1, vs, by rw [upd_ne (fun z => by rw [z, hm] at k2; cases k2)]; exact k1, k2, k3⟩
    | bag => exact q
    | ob n => exact q
theorem fs_lookup : ∀ {fs : List (Str × FV)} {ws : List (Str × V)} {f : Str}, FsOk K Hf fs ws → match fs.lookup f with
    | some x => ∃ v, ws.lookup f = some v ∧ FvOk K Hf x v
    | none => ws.lookup f = none
  | [], ws, f, h => by
    have : ws = [] := h
    subst this
    rfl
  | (g, x) :: r, ws, f, ⟨v, t, h1, h2, h3⟩ => by
    subst h1
    rw [List.lookup_cons, List.lookup_cons]
    cases e : f == g with
    | true => exact ⟨v, rfl, h2⟩
    | false => exact fs_lookup h3
def putFV (f : Str) (x : FV) : List (Str × FV) → List (Str × FV)
  | [] => [(f, x)]
  | (g, y) :: r => if g = f then (g, x) :: r else (g, y) :: putFV f x r
theorem fs_put : ∀ {fs : List (Str × FV)} {ws : List (Str × V)} {f : Str} {x : FV} {v : V}, FsOk K Hf fs ws → FvOk K Hf x v → FsOk K Hf (putFV f x fs) (putF f v ws)
  | [], ws, f, x, v, h, hx => by
    have : ws = [] := h
    subst this
    exact ⟨v, [], rfl, hx, rfl⟩
  | (g, y) :: r, ws, f, x, v, ⟨w, t, h1, h2, h3⟩, hx => by
    subst h1
    unfold putFV putF
    by_cases q : g = f
    · rw [if_pos q, if_pos q]
      exact ⟨v, t, rfl, hx, h3⟩
    · rw [if_neg q, if_neg q]
      exact ⟨w, _, rfl, h2, fs_put h3 hx⟩
theorem fs_len : ∀ {fs : List (Str × FV)} {ws : List (Str × V)}, FsOk K Hf fs ws → ws.length = fs.length
  | [], ws, h => by
    have : ws = [] := h
    rw [this]; rfl
  | (_, _) :: _, _, ⟨_, _, h1, _, h3⟩ => by rw [h1, List.length_cons, List.length_cons, fs_len h3]
end
/-! ### fields -/
def FV.rv : FV → Rv
  | .dat d => .dat d
  | .ob n => .ob n
/-- e.f of an instance of C -/
def mFld (C : Str) (m : M Rv) (f : Str) : M Rv := M.bind m fun r s => match r with
  | .ob n => (match s.β.os[n]? with
    | some (.ins C' fs) => if C' = C then (fs.lookup f).map fun x => (s, .ok x.rv) else none
    | _ => none)
  | _ => none
/-- a value for a field: data, or a cell -/
def retainV (r : Rv) : M FV := fun s => match r with
  | .ob n => some (s, .ok (.ob n))
  | r => (M.bind (retain r) fun d => M.pure (.dat d)) s
theorem retainV_ok {K : PySem.W.Frag} {ba : Option Addr} {O Hf H : Hp} {σ : L2.St} {s : S} {v : V} {r : Rv} {ok : FV → S → Prop} {ex : Exn → S → Prop} (R : Rep K ba O Hf H σ s) (h : RvOk K ba O Hf H σ s r v) (f : Fits (retainV r s) ok ex) :
    ∃ x s' Hf', ok x s' ∧ Same Hf Hf' ∧ Rep K ba O Hf' H σ s' ∧ FvOk K Hf' x v := by
  have gen : Fits ((M.bind (retain r) fun d => M.pure (FV.dat d)) s) ok ex → ∃ x s' Hf', ok x s' ∧ Same Hf Hf' ∧ Rep K ba O Hf' H σ s' ∧ FvOk K Hf' x v := fun f => by
    obtain ⟨d, s', Hf', o, e, R', p⟩ := retain_ok R h f.bind
    exact ⟨.dat d, s', Hf', o, e, R', p⟩
  cases r with
  | ob n => exact ⟨.ob n, s, Hf, f, Same.refl _, R, h⟩
  | _ => exact gen f
/-- self.f = v -/
def mFldSet (C : Str) (mo : M Rv) (f : Str) (mv : M Rv) : M Fl := M.bind mv fun r => M.bind (retainV r) fun x => M.bind mo fun ro s => match ro with
  | .ob n => (match s.β.os[n]? with
    | some (.ins C' fs) => if C' = C ∧ fs.length < 1000 then some (s.putCell n (.ins C (putFV f x fs)), .ok .nx) else none
    | _ => none)
  | _ => none
section
variable {X : Cx} {E : WX} {e o value : Expr} {f C : Str} {m mo mv : M Rv} {pos pos' : Pos}
theorem ev_fld (he : EV X E e m) (hc : Cls X.K (He.ga X.K C)) (hn : NoAttr X.K (He.ga X.K C) f) (hb : attributeBase e f X.env (eval e X.env) = eval e X.env := by rfl) : EV X E (.Attribute e f pos) (mFld C m f) :=
  PE.conv (pe_fld he hb) fun σ H Q q => tM.bind q fun ba O Hf s r v H1 R ok F => by
    cases r with
    | ob n =>
      obtain ⟨a, rfl, hm⟩ := ok
      obtain ⟨c, hc1, hc2⟩ := R.reg.obs.at_ a n hm
      simp only [hc1] at F
      cases c with
      | ins C' fs =>
        simp only at F
        split at F
        · rename_i eC
          subst eC
          obtain ⟨dx, ws, k1, k2⟩ := hc2
          have l := fs_lookup (f := f) k2
          cases el : fs.lookup f with
          | none => rw [el] at F; exact F.elim
          | some x =>
            rw [el] at F l
            obtain ⟨w, l1, l2⟩ := l
            refine ⟨a, _, dx, ws, w, rfl, k1, hc, hn, l1, ?_⟩
            cases x with
            | dat d => exact F w H1 Hf R (Same.refl _) l2
            | ob k => exact F w H1 Hf R (Same.refl _) l2
        · exact F.elim
      | lst ds => exact F.elim
      | dct kvs => exact F.elim
    | dat d => exact F.elim
    | fresh ds => exact F.elim
    | slot i => exact F.elim
    | bag => exact F.elim
    | freshK kvs => exact F.elim
theorem es_fld (ho : EV X E o mo) (hv : EV X E value mv) (hc : Cls X.K (He.ga X.K C)) (hn : NoAttr X.K (He.ga X.K C) f) (hs : swapsWith value (some (.Attribute o f pos')) pos.line X.env = pure false := by rfl) :
    ES X E (.Assign [.Attribute o f pos'] value pos) (mFldSet C mo f mv) :=
  PS.conv (ps_fld ho hv hs) fun D σ H q => by
    obtain ⟨ba, O, Hf, s, R0, F⟩ := q
    refine ⟨ba, O, Hf, s, R0, tMS.bind F fun r s1 F1 v H1 Hf1 R1 e1 ok1 => ?_⟩
    obtain ⟨x, s2, Hf2, F2, e2, R2, ok2⟩ := retainV_ok R1 ok1 F1.bind
    refine ⟨ba, O, Hf2, s2, R2, tMS.bind (end_mono (Same.trans e1 e2) F2) fun ro s3 F3 w H3 Hf3 R3 e3 ok3 => ?_⟩
    cases ro with
    | ob n =>
      obtain ⟨a, rfl, hm⟩ := ok3
      obtain ⟨c, hc1, hc2⟩ := R3.reg.obs.at_ a n hm
      simp only [hc1] at F3
      cases c with
      | ins C' fs =>
        simp only at F3
        split at F3
        · rename_i eC
          obtain ⟨rfl, hl⟩ := eC
          obtain ⟨dx, ws, k1, k2⟩ := hc2
          refine ⟨a, _, dx, ws, rfl, k1, hc, hn, by rw [fs_len k2]; exact hl, ?_⟩
          exact F3 σ _ Hf3 (R3.putCell hm k1 ⟨dx, _, upd_same, fs_put k2 (ok2.mono e3)⟩) e3
        · exact F3.elim
      | lst ds => exact F3.elim
      | dct kvs => exact F3.elim
    | dat d => exact F3.elim
    | fresh ds => exact F3.elim
    | slot i => exact F3.elim
    | bag => exact F3.elim
    | freshK kvs => exact F3.elim
end
end Pu
/-! Pu31: making instances, asking methods. -/
namespace Pu
open PySem PySem.Spec PyProof.Rows L2
/-- C(..): a new cell, then __init__ -/
def mNew (C : Str) (f : Fn) (ms : List (M Rv)) : M Rv := M.bind (mArgs ms) fun as s => match f { s.β with os := s.β.os ++ [.ins C []] } (.ob s.β.os.length :: as) with
  | some (β', .ok (.dat .none)) => some ({ s with β := β' }, .ok (.ob s.β.os.length))
  | some (β', .error x) => some ({ s with β := β' }, .error x)
  | _ => none
/-- o.m(..) of an instance of C -/
def mMeth (C : Str) (m : Str) (f : Fn) (mo : M Rv) (ms : List (M Rv)) : M Rv := M.bind mo fun ro s => match ro with
  | .ob n => (match s.β.os[n]? with
    | some (.ins C' fs) => if C' = C ∧ fs.lookup m = none then (M.bind (mArgs ms) fun as s => match f s.β (.ob n :: as) with
        | none => none
        | some (β', .ok r) => some ({ s with β := β' }, .ok r.rv)
        | some (β', .error x) => some ({ s with β := β' }, .error x)) s else none
    | _ => none)
  | _ => none
section
variable {X : Cx} {E : WX} {k : Nat} {f : Addr} {fd : FuncData} {ps : List Str} {F : Fn} {x C m : Str} {p pos apos : Pos} {e o : Expr} {es : List Expr} {ms : List (M Rv)} {mo : M Rv}
theorem runMk {sp : Sp} {C : Addr} {pins : List (Addr × Obj)} {σ : L2.St} {H : Hp} {s : Shared} {Q : VK} {us : List Value} {vs : List V} (M : L2.Mk X.K C f) (G : FnOk X.prog X.w X.K X.mg X.base (L2.CX X.prog X.w) k f fd ps sp) (hr : Room (k + 1) X.A) (hb : Binds X.K fd ps []) (tk : Takes X E)
    (I : Inv X pins σ H s) (r : Vals vs us)
    (h : ∀ x dx, H x = none → H dx = none → dx ≠ x → sp (.ref x :: vs) (upd (upd H dx (.own x)) x (.ins C dx [])) (fun v H2 => v = .non ∧ Q (.ref x) H2) fun c d H' => E c d σ H') :
    wpAny (model
            X.prog X.w) X.A (call (.ref C) us) (EP X pins σ Q) X.xe s := by
  (have hq := h (s.heap.objs.size + 1) s.heap.objs.size (I.hok.fresh (Nat.le_succ _)) (I.hok.fresh (Nat.le_refl _)) (Nat.ne_of_lt (Nat.lt_succ_self _)))
  (have I2 := Inv.made (C := C) I)
  (have r2 : Vals (V.ref (s.heap.objs.size + 1) :: vs) (Value.ref (s.heap.objs.size + 1) :: us) := .cons rfl r)
  have hl : ((Value.ref (s.heap.objs.size + 1) :: us) ++ []).length = ps.length := by
    have e := r2.length
    rw [G.len _ _ _ _ hq] at e
    rw [List.append_nil]
    exact e.symm
  have hb' := hb _ (Value.ref (s.heap.objs.size + 1) :: us) I2.kIn hl
  rw [List.append_nil] at hb'
  refine wpAny_call (make_map (f := f) I.kIn M.makes M.init (beq_iff_eq.mp M.fn) (codeAny_mono (G.run _ X.stack _ _ ⟨Value.ref (s.heap.objs.size + 1) :: us, []⟩ (Value.ref (s.heap.objs.size + 1) :: us) _ _ _ (hr.make C us [])
    (I2.env0.make C us []) hb' r2 hq) fun r s' hq' => ?_))
  match r, hq' with
  | .error e, hq' => exact tk e s' (XE.of_call I2 (fun _ _ _ z => z) hq')
  | .ok (.ret u), hq' =>
    (obtain ⟨v, H', I3, rv, ev, q3⟩ := I2.after hq')
    subst ev
    (exact ⟨rv, ⟨V.ref (s.heap.objs.size + 1), H', I3, rfl, q3⟩⟩)
theorem new_ask {σ : L2.St} {H : Hp} {Q : VK} (q : tM X.K X.mg E (mNew C F ms) σ H Q) : tMA X.K X.mg E (mArgs ms) σ H fun vs H1 => ∀ x dx, H1 x = none → H1 dx = none → dx ≠ x →
    SpM X.K X.mg (ms.length + 1) F (.ref x :: vs) (upd (upd H1 dx (.own x)) x (.ins (He.ga X.K C) dx [])) (fun v H2 => v = .non ∧ Q (.ref x) H2) fun c d H' => E c d σ H' := by
  obtain ⟨ba, O, Hf, s, R0, F0⟩ := q
  refine ⟨ba, O, Hf, s, R0, (mArgs_len F0.bind).imp (fun as s1 F1 vs H1 Hf1 R1 e1 ok1 x dx hx hdx ne => ?_) fun x s' q => q⟩
  obtain ⟨l, F1⟩ := F1
  have Ra := R1.grow (o := .own x) hdx
  have hx' : upd H1 dx (.own x) x = none := by rw [upd_ne ne.symm]; exact hx
  have Rb := Ra.grow (o := .ins (He.ga X.K C) dx []) hx'
  obtain ⟨f1, f2, f3⟩ := Ra.reg.free hx'
  obtain ⟨sm, Rc⟩ := Rb.mark (c := .ins C []) upd_same f1 f2 f3 (fun i es e1 e2 => by
    obtain ⟨b, q1, vs, q2, _⟩ := R1.slot i _ _ e1 e2
    cases q1
    rw [hx] at q2
    cases q2) ⟨dx, [], upd_same, rfl⟩
  cases ef : F { s1.β with os := s1.β.os ++ [.ins C []] } (.ob s1.β.os.length :: as) with
  | none => simp only [ef] at F1; exact F1.elim
  | some q =>
    obtain ⟨β', r⟩ := q
    refine ⟨ba, callO X.K ba _ _, _, _, .ob s1.β.os.length :: as, r, β', by rw [List.length_cons, l], callO_reg Rc.reg, ⟨.ref x, vs, rfl, ⟨x, rfl, upd_same⟩, ok1.mono sm⟩, ef, ?_⟩
    cases r with
    | ok res =>
      simp only [ef] at F1
      intro v H' Hf' G e2 ok2
      cases res with
      | dat d =>
        cases d with
        | none =>
          refine ⟨by simpa only [RsOk, Rp] using ok2, ?_⟩
          exact F1 _ H' Hf' (Rc.back G e2) (Same.trans e1 (Same.trans sm e2)) ⟨x, rfl, e2 _ _ upd_same⟩
        | _ => exact F1.elim
      | _ => exact F1.elim
    | error xx =>
      simp only [ef] at F1
      intro H' Hf' c d G e2 ok2
      exact F1 H' Hf' c d (Rc.back G e2) (Same.trans e1 (Same.trans sm e2)) ok2
theorem ev_new (M : L2.Mk X.K (He.ga X.K C) f) (G : FnOk X.prog X.w X.K X.mg X.base (L2.CX X.prog X.w) k f fd ps (SpM X.K X.mg (ms.length + 1) F)) (hr : Room (k + 1) X.A) (tk : Takes X E) (hg : Gl X x) (hm : X.mg x = some (.ref (He.ga X.K C))) (hb : Binds X.K fd ps [])
    (ha : EA X E (e :: es) ms) (hdb : (x == ("__debug__" : Str)) = false := by decide) (he : starEach (e :: es) X.env = (false, eval e X.env) :: starEach es X.env := by rfl) (hpl : (backTo pos (starEach es X.env)).any (·.1) = false := by rfl) :
    EV X E (.Call (.Name x p) (e :: es) [] pos) (mNew C F ms) := by
  (refine ⟨fun pins s σ H Q I h => ?_⟩)
  (refine wpAny_Call_Name_kw (ld_glob I hg hm ?_ hdb))
  refine PySem.W.callWith_K (h₀ := X.base) I.ok.mod.kin M.kp (thn (ha.run pos pins s σ H _ I (new_ask h)) fun us s1 hz => ?_) he hpl
  obtain ⟨vs, H1, I1, r, q⟩ := hz
  exact ⟨I1.kIn, runMk M G hr hb tk I1 r q⟩
theorem meth_ask {σ : L2.St} {H : Hp} {Q : VK} (q : tM X.K X.mg E (mMeth C m F mo ms) σ H Q) : tM X.K X.mg E mo σ H fun v H1 => ∃ a dx fs, v = .ref a ∧ H1 a = some (.ins (He.ga X.K C) dx fs) ∧ fs.lookup m = none ∧
    tMA X.K X.mg E (mArgs ms) σ H1 fun vs H2 => SpM X.K X.mg (ms.length + 1) F (.ref a :: vs) H2 Q fun c d H' => E c d σ H' :=
  tM.bind q fun ba O Hf s r v H1 R ok F0 => by
    cases r with
    | ob n =>
      obtain ⟨a, rfl, hm⟩ := ok
      obtain ⟨c, hc1, hc2⟩ := R.reg.obs.at_ a n hm
      simp only [hc1] at F0
      cases c with
      | ins C' fs =>
        simp only at F0
        split at F0
        · rename_i eC
          obtain ⟨rfl, hl⟩ := eC
          obtain ⟨dx, ws, k1, k2⟩ := hc2
          have lk := fs_lookup (f := m) k2
          rw [hl] at lk
          refine ⟨a, dx, ws, rfl, k1, lk, ba, O, Hf, s, R, (mArgs_len F0.bind).imp (fun as s1 F1 vs H1 Hf1 R1 e1 ok1 => ?_) fun x s' q => q⟩
          obtain ⟨l, F1⟩ := F1
          cases ef : F s1.β (.ob n :: as) with
          | none => simp only [ef] at F1; exact F1.elim
          | some q =>
            obtain ⟨β', r⟩ := q
            refine ⟨ba, callO X.K ba Hf1 H1, Hf1, s1.β, .ob n :: as, r, β', by rw [List.length_cons, l], callO_reg R1.reg, ⟨.ref a, vs, rfl, ⟨a, rfl, e1 _ _ hm⟩, ok1⟩, ef, ?_⟩
            cases r with
            | ok res =>
              simp only [ef] at F1
              intro v H' Hf' G e2 ok2
              exact F1 v H' Hf' (R1.back G e2) (Same.trans e1 e2) (RsOk.back R1 ok2)
            | error x =>
              simp only [ef] at F1
              intro H' Hf' c d G e2 ok2
              exact F1 H' Hf' c d (R1.back G e2) (Same.trans e1 e2) ok2
        · exact F0.elim
      | lst ds => exact F0.elim
      | dct kvs => exact F0.elim
    | dat d => exact F0.elim
    | fresh ds => exact F0.elim
    | slot i => exact F0.elim
    | bag => exact F0.elim
    | freshK kvs => exact F0.elim
theorem runMt {sp : Sp} {pins : List (Addr × Obj)} {σ : L2.St} {H : Hp} {s : Shared} {Q : VK} {us : List Value} {vs : List V} (G : FnOk X.prog X.w X.K X.mg X.base (L2.CX X.prog X.w) k f fd ps sp) (hr : Room k X.A) (hb : Binds X.K fd ps []) (tk : Takes X E)
    (I : Inv X pins σ H s) (r : Vals vs us) (h : sp vs H Q fun c d H' => E c d σ H') : wpAny (model X.prog X.w) X.A (call (.ref f) us) (EP X pins σ Q) X.xe s := by
  have hl : us.length = ps.length := by rw [← r.length]; exact G.len _ _ _ _ h
  (have b := hb s us I.kIn (by rw [List.append_nil]; exact hl))
  rw [List.append_nil] at b
  refine wpAny_call (codeAny_mono (G.run X.A X.stack s H ⟨us, []⟩ us vs Q (fun c d H' => E c d σ H') hr I.env0 b r h) fun z s' hq => ?_)
  match z, hq with
  | .error e, hq => exact tk e s' (XE.of_call I (fun _ _ _ z => z) hq)
  | .ok (.ret u), hq => exact I.after hq
theorem ev_meth {plx : Sem Bool} (ho : EV X E o mo) (c : Cls X.K (He.ga X.K C)) (hm : L2.Meth X.K (He.ga X.K C) m f) (G : FnOk X.prog X.w X.K X.mg X.base (L2.CX X.prog X.w) k f fd ps (SpM X.K X.mg (ms.length + 1) F)) (hr : Room k X.A) (tk : Takes X E) (hb : Binds X.K fd ps [])
    (ha : EA X E (e :: es) ms) (hst : starEach (e :: es) X.env = (false, eval e X.env) :: starEach es X.env := by rfl) (hpl : (backTo pos (starEach es X.env)).any (·.1) = false := by rfl)
    (ht : eval
            (.Call (.Attribute o m apos) (e :: es) [] pos) X.env = (do
      let ov ← eval o X.env
      standAt apos.atName
      let (f, first) ← holding [ov] (getMethod ov m plx)
      callWith pos f first (backTo
              pos (starEach (e :: es) X.env)) (backToKw pos (keywordEach [] X.env))) := by rfl) :
    EV X E (.Call (.Attribute o m apos) (e :: es) [] pos) (mMeth C m F mo ms) := by
  (refine ⟨fun pins s σ H Q I h => ?_⟩)
  refine PySem.W.methodCall_KW (pl := plx) (thn (ho.run pins s σ H _ I (meth_ask h)) fun u s1 hz => ?_) ht
  obtain ⟨v, H1, I1, rx, a, dx, fs, ex, ea, l, q⟩ := hz
  subst ex
  (obtain rfl : u = Value.ref a := rx)
  (refine getmeth_ok I1 ea c hm l ?_)
  refine PySem.W.callWith_K (first := [.ref a]) (h₀ := X.base) I.ok.mod.kin hm.kp (thn (ha.run pos pins s1 σ H1 _ I1 q) fun us s2 hz => ?_) hst hpl
  obtain ⟨vs, H2, I2, r, q2⟩ := hz
  exact ⟨I2.kIn, runMt (us := .ref a :: us) (vs := .ref a :: vs) G hr hb tk I2 (.cons rfl r) q2⟩
theorem ev_meth0 {plx : Sem Bool} (ho : EV X E o mo) (c : Cls X.K (He.ga X.K C)) (hm : L2.Meth X.K (He.ga X.K C) m f) (G : FnOk X.prog X.w X.K X.mg X.base (L2.CX X.prog X.w) k f fd ps (SpM X.K X.mg 1 F)) (hr : Room k X.A) (tk : Takes X E) (hb : Binds X.K fd ps [])
    (ht : eval
            (.Call (.Attribute o m apos) [] [] pos) X.env = (do
      let ov ← eval o X.env
      standAt apos.atName
      let (f, first) ← holding [ov] (getMethod ov m plx)
      callWith pos f first (backTo
              pos (starEach [] X.env)) (backToKw pos (keywordEach [] X.env))) := by rfl) :
    EV X E (.Call (.Attribute o m apos) [] [] pos) (mMeth C m F mo []) := by
  (refine ⟨fun pins s σ H Q I h => ?_⟩)
  refine PySem.W.methodCall_KW (pl := plx) (thn (ho.run pins s σ H _ I (meth_ask h)) fun u s1 hz => ?_) ht
  obtain ⟨v, H1, I1, rx, a, dx, fs, ex, ea, l, q⟩ := hz
  subst ex
  (obtain rfl : u = Value.ref a := rx)
  (refine getmeth_ok I1 ea c hm l ?_)
  refine PySem.W.callWith_K0 (first := [.ref a]) I1.kIn hm.kp ?_
  have hz := (ea_nil (X := X) (E := E)).run pos pins s1 σ H1 _ I1 q
  exact runMt (us := [.ref a]) (vs := [.ref a]) G hr hb tk I1 (.cons rfl .nil) (by
    obtain ⟨ba, O, Hf, s0, R0, F0⟩ := q
    exact F0 [] H1 Hf R0 (Same.refl _) rfl)
end
end Pu
/-! Pu32: lists and dicts that are written in place. -/
namespace Pu
open PySem PySem.Spec PyProof.Rows L2
/-! ### a dict that nobody else holds -/
def mDictF (ps : List (Str × M Rv)) : M Rv := M.bind (mPairs ps) fun kvs => M.pure (.freshK kvs)
def mDictE : M Rv := M.pure (.freshK [])
section
variable {X : Cx} {E : WX} {pos : Pos}
/-- an object of the callers is given to nobody -/
theorem Rep.letGo {K : PySem.W.Frag} {ba : Option Addr} {O Hf H : Hp} {σ : L2.St} {s : S} {p : Addr} {ws ws' : List (Key × V)} {kvs : List (D × D)} (R : Rep K ba (upd O p (.dK ws)) Hf H σ s) (hO : O p = none) (hb : ba ≠ some p) (h : RpK K Hf kvs ws') :
    Rep K ba O Hf (upd H p (.dK ws')) σ s ∧ RvOk K ba O Hf (upd H p (.dK ws')) σ s (.freshK kvs) (.ref p) := by
  have R1 := R.change (o' := .dK ws')
  have hf : Hf p = none := by
    cases q : Hf p with
    | none => rfl
    | some x =>
      have z := R.reg.dis p (by rw [q]; simp)
      rw [upd_same] at z; cases z
  exact ⟨R1.less (Same.updN hO), p, ws', rfl, upd_same, hf, hO, hb, h⟩
theorem ev_dictF {keys : List (Option Expr)} {values : List Expr} {ps : List (Str × M Rv)} (h : ED X E pos keys values ps) (hall : keys.all (·.isSome) = true := by rfl) (hl : keys.length = values.length := by rfl) (h0 : keys ≠ [] := by simp) (h15 : ps.length ≤ 15 := by decide) (hk : keys.length = ps.length := by rfl)
    (hnd : (ps.map fun p => (.inr p.1 : Key)).Nodup := by decide) : EV X E (.Dict keys values pos) (mDictF ps) :=
  PE.conv (pe_disp h hall hl h0 (by rw [hk]; exact h15)) fun σ H Q q => by
    obtain ⟨ba, O, Hf, s, R0, F⟩ := q
    intro p hp
    obtain ⟨f1, f2, f3⟩ := R0.reg.free hp
    have R1 : Rep X.K ba (upd O p (.dK [])) Hf (upd H p (.dK [])) σ s := by
      refine (R0.grow (o := .dK []) hp).outer upd_same f1 f3 fun i es e2 e3 => ?_
      obtain ⟨x, e5, b, rfl, ws, j1, _⟩ := R0.at e2
      rw [e3] at e5
      cases e5
      rw [hp] at j1
      cases j1
    refine pairs_conv ps _ Hf s _ R1 (F.bind.imp (fun kvs s1 F1 H1 Hf1 ws R2 e1 rk hk1 => ?_) fun x s' q H' Hf' c d R' e' ex => q H' Hf' c d (R'.less (Same.updN f2)) e' ex)
    have lw : ws.length = ps.length := by
      have := congrArg List.length hk1
      simpa using this
    refine ⟨R2.reg.out p _ upd_same, ws, rfl, by rw [lw]; exact h15, ?_⟩
    obtain ⟨R3, ok⟩ := R2.letGo f2 f3 rk
    rw [merge_new ws [] (by rw [List.nil_append, hk1]; exact hnd), List.nil_append]
    exact F1 _ _ _ R3 e1 ok
theorem ev_dictE : EV X E (.Dict [] [] pos) mDictE := PE.conv pe_dnewK fun σ H Q q => by
  obtain ⟨ba, O, Hf, s, R, F⟩ := q
  intro p hp
  obtain ⟨f1, f2, f3⟩ := R.reg.free hp
  exact F _ _ Hf (R.grow hp) (Same.refl _) ⟨p, [], rfl, upd_same, f1, f2, f3, by simp only [RpK]⟩
end
/-! ### a new cell -/
def mCell (m : M Rv) : M Rv := M.bind m fun r s => match r with
  | .fresh ds => some (s.addCell (.lst ds), .ok (.ob s.β.os.length))
  | .freshK kvs => some (s.addCell (.dct kvs), .ok (.ob s.β.os.length))
  | _ => none
section
variable {X : Cx} {E : WX} {e : Expr} {m : M Rv}
theorem ev_cell (h : EV X E e m) : EV X E e (mCell m) := PE.conv h fun σ H Q q => by
  obtain ⟨ba0, O0, Hf0, s0, R0, F0⟩ := q
  refine ⟨ba0, O0, Hf0, s0, R0, F0.bind.imp (fun r s F v H1 Hf R e1 ok => ?_) fun x s' q => q⟩
  ·
    cases r with
    | fresh ds =>
      obtain ⟨a, rfl, ⟨vs, h1, h2, h3, h4, h5⟩, hu⟩ := ok
      obtain ⟨sm, R2⟩ := R.mark (c := .lst ds) h1 h2 h3 h4 hu ⟨vs, h1, RpL.mono (Same.updN h2) _ _ h5⟩
      exact F _ H1 _ R2 (Same.trans e1 sm) ⟨a, rfl, upd_same⟩
    | freshK kvs =>
      obtain ⟨a, ws, rfl, h1, h2, h3, h4, h5⟩ := ok
      obtain ⟨sm, R2⟩ := R.mark (c := .dct kvs) h1 h2 h3 h4 (fun i es e1 e2 => by
        obtain ⟨b, q1, vs, q2, _⟩ := R.slot i _ _ e1 e2
        cases q1
        rw [h1] at q2
        cases q2) ⟨ws, h1, RpK.mono (Same.updN h2) _ _ h5⟩
      exact F _ H1 _ R2 (Same.trans e1 sm) ⟨a, rfl, upd_same⟩
    | dat d => exact F.elim
    | slot i => exact F.elim
    | bag => exact F.elim
    | ob n => exact F.elim
end
/-! ### d[k] = v -/
def mDPut (md mk mv : M Rv) : M Fl := M.bind mv fun r => M.bind (retain r) fun d => M.bind md fun ro => M.bind mk fun rk s => match ro, rk with
  | .ob n, .dat k => (match s.β.os[n]?, keyD k with
    | some (.dct kvs), some _ => if kvs.length < sizeLine then some (s.putCell n (.dct (putD kvs k d)), .ok .nx) else none
    | _, _ => none)
  | _, _ => none
section
variable {X : Cx} {E : WX} {o i value : Expr} {md mk' mv : M Rv} {pos pos' : Pos}
theorem es_dput (hu : X.A.units + 64 < cLine) (ho : EV X E o md) (hi : EV X E i mk') (hv : EV X E value mv) (hs : swapsWith value (some (.Subscript o i pos')) pos.line X.env = pure false := by rfl) :
    ES X E (.Assign [.Subscript o i pos'] value pos) (mDPut md mk' mv) :=
  PS.conv (ps_dput (by omega) ho hi hv hs) fun D σ H q => by
    obtain ⟨ba, O, Hf, s, R0, F⟩ := q
    refine ⟨ba, O, Hf, s, R0, tMS.bind F fun r s1 F1 v H1 Hf1 R1 e1 ok1 => ?_⟩
    obtain ⟨d, s2, Hf2, F2, e2, R2, p2⟩ := retain_ok R1 ok1 F1.bind
    refine ⟨ba, O, Hf2, s2, R2, tMS.bind (end_mono (Same.trans e1 e2) F2) fun ro s3 F3 w H3 Hf3 R3 e3 ok3 => ?_⟩
    refine ⟨ba, O, Hf3, s3, R3, tMS.bind (end_mono e3 F3) fun rk s4 F4 y H4 Hf4 R4 e4 ok4 => ?_⟩
    cases ro with
    | ob n =>
      cases rk with
      | dat k =>
        obtain ⟨a, rfl, hm⟩ := ok3
        have hm4 := e4 _ _ hm
        obtain ⟨c, hc1, hc2⟩ := R4.reg.obs.at_ a n hm4
        simp only [hc1] at F4
        cases c with
        | dct kvs =>
          cases ek : keyD k with
          | none => simp only [ek] at F4; exact F4.elim
          | some kk =>
            simp only [ek] at F4
            split at F4
            · rename_i hl
              obtain ⟨ws, k1, k2⟩ := hc2
              have ey := key_rp (K := X.K) (H := Hf4) ok4 ek
              subst ey
              refine ⟨a, _, rfl, .k (k := kk) k1 (by rw [k2.length']; exact hl), ?_⟩
              exact F4 σ _ Hf4 (R4.putCell hm4 k1 ⟨_, upd_same, k2.put ek (Rp.mono (Same.trans e3 e4) _ _ p2)⟩) e4
            · exact F4.elim
        | ins C fs => exact F4.elim
        | lst ds => exact F4.elim
      | fresh ds => exact F4.elim
      | slot i => exact F4.elim
      | bag => exact F4.elim
      | ob n => exact F4.elim
      | freshK kvs => exact F4.elim
    | dat d => exact F4.elim
    | fresh ds => exact F4.elim
    | slot i => exact F4.elim
    | bag => exact F4.elim
    | freshK kvs => exact F4.elim
end
end Pu
/-! Pu33: enumerate over lists and tuples. -/
namespace Pu
open PySem PySem.Spec PyProof.Rows L2
open PySem (wpAny_pyIter_tuple)
open AutoSeq1
theorem meets_enumT (l : Addr) (items : Array Value) (n : Nat) (dct : Option Addr) (sl : Array (Option Value)) :
    Meets (Builtin.«enumerate.__new__» ⟨[.type "enumerate", .ref l], []⟩) (fun _ R s => s.heap.get? l = some { cls := .type "tuple", dict := dct, data := .seq items n, slots := sl } ∧
      R (.ok (.ret (.ref (s.heap.push { cls := .type "tuple_iterator", data := .fields #[.ref l, .int 0 0] }).objs.size)))
        { s with heap := (s.heap.push { cls := .type "tuple_iterator", data := .fields #[.ref l, .int 0 0] }).push { cls := .type "enumerate", data := .fields #[.none, .bool false, .ref s.heap.objs.size, rawInt 0, .none, .none] } }) :=
  .of_wp fun pr0 w0 A R s hyp => by
    (obtain ⟨hp, g, d, tk, os⟩ := s)
    obtain ⟨hl, hyp⟩ := hyp
    have hsub := sub_enumerate
    have hL : Heap.IsTuple (Shared.heap ⟨hp, g, d, tk, os⟩) l items := ⟨_, hl, rfl, n, rfl⟩
    (wp_walk using wpAny_loadPart' hl)
    refine wpAny_stack_any fun st => (wpAny_pure ?_)
    split
    · rename_i c _ _ _ _ _
      (cases (c == Value.type "enumerate"))
      · wp_walk using wpAny_loadPart' hl, wpAny_pyIter_tuple hL
        exact ⟨_, rfl, hyp⟩
      · wp_walk using wpAny_loadPart' hl, wpAny_pyIter_tuple hL
        exact ⟨_, rfl, hyp⟩
    · wp_walk using wpAny_loadPart' hl, wpAny_pyIter_tuple hL
      exact ⟨_, rfl, hyp⟩
section
variable {prog
        : Program} {w : World} {A : Around} {E : Value → Shared → Prop} {s : Shared}
theorem call_enumT {l : Addr} {items : Array Value} {Q : Value → Shared → Prop} (hL : s.heap.IsTuple l items)
    (h : ∀ h', IsEnum h' (s.heap.objs.size + 1) s.heap.objs.size 0 .none → h'.IsTupleIter s.heap.objs.size l 0 → h'.objs.size = s.heap.objs.size + 2 →
      (∀ b o, s.heap.get?
              b = some o → h'.get? b = some o) → Q (.ref (s.heap.objs.size + 1)) { s with heap := h' }) :
    wpAny (model
            prog w) A (call (.type "enumerate") [.ref l]) Q E s := by
  (obtain ⟨⟨c, dct, dt, sl⟩, hl, hc, n, hd⟩ := hL)
  replace hc : c = .type "tuple" := hc
  (replace hd : dt = .seq items n := hd)
  subst hc hd
  refine callType_new F.called_enumerate (by
          decide) (F.typeCall_enumerate_1 _) (F.newCall_enumerate_1 _) (fun obj => F.args_object_init_2 obj _) F.entry_enumerate_new
    (meets_enumT l items n dct sl) ⟨hl, ?_⟩
  have hz : (s.heap.push { cls := .type "tuple_iterator", data := .fields #[.ref l, .int 0 0] }).objs.size = s.heap.objs.size + 1 := Heap.size_push ..
  show _ ∧ _
  rw [hz]
  have he : IsEnum ((s.heap.push { cls := .type "tuple_iterator", data := .fields #[.ref l, .int 0 0] }).push
      { cls := .type
              "enumerate", data := .fields #[.none, .bool false, .ref s.heap.objs.size, rawInt 0, .none, .none] }) (s.heap.objs.size + 1) s.heap.objs.size 0 .none := by
    have := Heap.get?_push_size (s.heap.push { cls := .type "tuple_iterator", data := .fields #[.ref l, .int 0 0] })
      (o := { cls
              := .type "enumerate", data := .fields #[.none, .bool false, .ref s.heap.objs.size, rawInt 0, .none, .none] }) rfl
    rw [hz] at this
    exact this
  (refine ⟨⟨_, he, rfl⟩, h _ he ⟨_, Heap.get?_push_of_some _ (Heap.get?_push_size _ rfl), rfl, rfl⟩ (by rw [Heap.size_push, hz]) fun b o x => Heap.get?_push_of_some _ (Heap.get?_push_of_some _ x)⟩)
theorem call_enumX (k : Bool) {l : Addr} {items : Array Value} {Q : Value → Shared → Prop} (hL : SeqX k s.heap l items)
    (h : ∀ h', IsEnum h' (s.heap.objs.size + 1) s.heap.objs.size 0 .none → IterX k h' s.heap.objs.size l 0 → h'.objs.size = s.heap.objs.size + 2 →
      (∀ b o, s.heap.get?
              b = some o → h'.get? b = some o) → Q (.ref (s.heap.objs.size + 1)) { s with heap := h' }) :
    wpAny (model
            prog w) A (call (.type "enumerate") [.ref l]) Q E s := by
  cases k with
  | true => exact call_enumerate_list hL h
  | false => exact call_enumT hL h
end
/-- the items of the sequence at a, each with its number -/
def ItnX (K : PySem.W.Frag) (k : Bool) (a : Addr) : It where
  go i H := ∃ (xs : List V) (x : V), SqX k K H a xs ∧ xs[i]? = some x
  yld i H v H' := ∃ T x, v = .ref T ∧ H T = none ∧ H' = upd H T (.tup [.int (i : Nat), x]) ∧ ∀ xs, SqX k K H a xs → xs[i]? = some x
  stop i H := ∃ xs : List V, SqX k K H a xs ∧ i = xs.length
def NSt (k : Bool) (a e it : Addr) (i : Nat) (h : Heap) : Prop := (∃ old, IsEnum h e it ((i : Nat) : Int) old) ∧ IterX k h it a i ∧ e ≠ it ∧ a ≠ it ∧ e ≠ a
theorem turn_numX {P : Program} {w : World} {K : PySem.W.Frag} {elts : List Expr} {kk : Nat} {tpos : Pos} {k : Bool} (a e it : Addr) : Turn P w K (.Tuple elts kk tpos) (ItnX K k a) [e, it] e (NSt k a e it) where
  mem := by simp
  obj := fun i h st b hb => by
    obtain ⟨⟨old, he⟩, hi, _⟩ := st
    (have e' : b = e ∨ b = it := by simpa using hb)
    rcases e' with z | z
    · (rw [z]; exact ⟨_, he, fun v q => nomatch q⟩)
    · rw [z]; exact hi.obj
  keep := fun i h h' st kp => by
    obtain ⟨⟨old, he⟩, hi, hne⟩ := st
    exact ⟨⟨old, kp e (by simp) _ he⟩, hi.move fun o q => kp it (by simp) o q, hne⟩
  item := fun X hP hw hK hc i pins s σ H E I hf st hg => by
    subst hP hw hK
    obtain ⟨⟨old, he⟩, hit, hne, hai, hea⟩ := st
    obtain ⟨xs, x, hq, hx⟩ := hg
    obtain ⟨its, rv, p, _⟩ := hq.conc I
    (obtain ⟨u, hu, ru⟩ := rv.get hx)
    (have hel : e < s.heap.objs.size := Heap.lt_size he)
    have hil : it < s.heap.objs.size := by obtain ⟨_, q, _⟩ := hit.obj; exact Heap.lt_size q
    have hh : X.A.in1.handled = none := I.ok.hd hc
    have hi' : i < its.toArray.size := by
      have := (List.getElem?_eq_some_iff.mp hu).1
      simpa using this
    refine wpAny_pyNext_enum_itemD (drawsX k hh it a hai its.toArray) he ⟨hit, p⟩ hi' hne (by simp [hne, hea]) fun y h' tk hy ho st' hT hsz hk => ⟨_, rfl, ?_⟩
    refine wpAny_letOwnedTupleGo_enum (s := { s with heap := h', toks := tk + 1 }) ho fun h'' he' sb => ?_
    have hyu : its[i]? = some y := by simpa using hy
    rw [hyu] at hu
    obtain rfl : y = u := Option.some.inj hu
    have hT2 : h''.get? s.heap.objs.size = some { cls := .type "tuple", data := .seq #[.int i tk, y] } := (sb.2 _ (Nat.ne_of_gt hel)).trans hT
    have far : ∀ c o, c ∉ [e, it] → s.heap.get? c = some o → h''.get? c = some o := fun c o hb q => by
      have n : c ≠ e ∧ c ≠ it := by simpa using hb
      exact (sb.2 c n.1).trans (hk c o n.1 n.2 q)
    have J := I.turnedNew (t' := tk + 1) (ob := .tup [.int (i : Nat), x]) far hf (Nat.le_refl _) ⟨by show 2 ≤ sizeLine; decide, [.int i tk, y], .cons ⟨_, rfl⟩ (.cons ru .nil), ⟨_, hT2, rfl, _, rfl⟩⟩
    refine ⟨.ref s.heap.objs.size, _, J, rfl, ⟨_, x, rfl, I.hok.fresh (Nat.le_refl _), rfl, fun ys hy => by rw [hy.same I hq]; exact hx⟩, ⟨⟨y, ?_⟩, st'.1.move fun o q => (sb.2 it (Ne.symm hne)).trans q, hne, hai, hea⟩, fun b hb => ?_⟩
    · have e1 : ((i
            + 1 : Nat) : Int) = (i : Int) + 1 := by omega
      rw [e1]; exact he'
    · have hb' : b < (s.heap.objs.size) := by
        (have e' : b = e ∨ b = it := by simpa using hb)
        rcases e' with z | z
        · rw [z]; exact hel
        · rw [z]; exact hil
      (rw [upd_ne (Nat.ne_of_lt hb')])
      exact (hf b hb).1
  done := fun X hP hw hK hc i pins s σ H E I hf st hg => by
    subst hP hw hK
    obtain ⟨⟨old, he⟩, hit, hne, hai, hea⟩ := st
    obtain ⟨xs, hq, hx⟩ := hg
    obtain ⟨its, rv, p, _⟩ := hq.conc I
    have hh : X.A.in1.handled = none := I.ok.hd hc
    have hl := rv.length
    have hi : its.toArray.size = i := by simp; omega
    have D := drawsX k hh it a hai its.toArray (prog := X.prog) (w := X.w)
    rw [hi] at D
    refine wpAny_pyNext_enum_endD D he ⟨hit, p⟩ fun h' eb => ⟨rfl, ?_⟩
    exact I.turnedL (t' := s.toks) (ch := [e, it]) (fun b o hb q => by
      have n : b ≠ e ∧ b ≠ it := by simpa using hb
      exact eb b o n.2 q) hf
  self := fun A0 i s Q E st h => by
    obtain ⟨⟨old, he⟩, _⟩ := st
    exact wpAny_pyIter_enum he h
def iNumX (K : PySem.W.Frag) (ta : TA) : TI := fun σ H R => ta σ H fun vs H1 => ∃ k a xs, vs = [.ref a] ∧ SqX k K H1 a xs ∧ R (ItnX K k a) H1
theorem pi_numX {X : Cx} {e : Expr} {ta : TA} {p pos tpos : Pos} {elts : List Expr} {kk : Nat} (hg : Gl X "enumerate") (hm : X.mg "enumerate" = none) (ha : PA X [e] ta) (hs : starEach [e] X.env = [(false, eval e X.env)] := by rfl) :
    PI X (.Tuple elts kk tpos) (.Call (.Name "enumerate" p) [e] [] pos) (iNumX X.K ta) := by
  (refine ⟨fun pins s σ H R I h => ?_⟩)
  refine Call_ (ld_blt I hg hm boot_enumerate (PyProof.Rows.callWith_type1 (thn (ha.run pos pins s σ H _ I h) fun us s1 hz => ?_) hs rfl))
  obtain ⟨vs, H1, I1, r1, k, a, xs, ex, hq, q⟩ := hz
  subst ex
  cases r1 with
  | cons r rr =>
    cases rr
    cases r
    obtain ⟨its, rv, p', hlt⟩ := hq.conc I1
    refine call_enumX k p' fun h' he hit hsz hk => wpAny_pyIter_enum he ?_
    (have I2 : Inv X pins σ H1 { s1 with heap := h' } := I1.kept (t' := s1.toks) hk)
    refine ⟨s1.heap.objs.size + 1, [s1.heap.objs.size + 1, s1.heap.objs.size], _, _, H1, rfl, I2, turn_numX a (s1.heap.objs.size + 1) s1.heap.objs.size, ⟨⟨.none, he⟩, hit, Nat.succ_ne_self _, Nat.ne_of_lt hlt, fun z => Nat.lt_irrefl _ (Nat.lt_trans (Nat.lt_succ_self _) (z ▸ hlt))⟩, fun b hb => ?_, q⟩
    (have e' : b = s1.heap.objs.size + 1 ∨ b = s1.heap.objs.size := by simpa using hb)
    have hle : (s1.heap.objs.size) ≤ b := by
      rcases e' with z | z
      · rw [z]; exact Nat.le_add_right _ 1
      · exact Nat.le_of_eq z.symm
    (exact I1.fpOk hle (I1.hok.fresh hle))
/-! ### the items with their numbers, as data -/
def numD : Nat → List D → List D
  | _, [] => []
  | n, d :: ds => .tuple [.int (n : Nat), d] :: numD (n + 1) ds
theorem numD_len : ∀ (n : Nat) (ds : List D), (numD n ds).length = ds.length
  | _, [] => rfl
  | n, d :: ds => by rw [numD, List.length_cons, List.length_cons, numD_len]
theorem numD_get : ∀ (n : Nat) (ds : List D) (i : Nat), (numD n ds)[i]? = (ds[i]?).map fun d => .tuple [.int ((n + i : Nat) : Int), d]
  | _, [], i => by simp [numD]
  | n, d :: ds, 0 => rfl
  | n, d :: ds, i + 1 => by
    rw [numD, List.getElem?_cons_succ, List.getElem?_cons_succ, numD_get, show n + 1 + i = n + (i + 1) by omega]
def mNum (m : M Rv) : M (List D) := M.bind (mArgs [m]) fun as => M.lift (match as with
  | [.dat d] => (seqD d).map (numD 0)
  | _ => none)
theorem itok_num {K : PySem.W.Frag} {Hf : Hp} {k : Bool} {a : Addr} {vs : List V} {xs : List D} (h1 : ∀ H, Sub Hf H → SqX k K H a vs) (h2 : RpL K Hf xs vs) : ItOk K (ItnX K k a) Hf (numD 0 xs) where
  go := fun i H s hi => by
    rw [numD_len] at hi
    obtain ⟨x, e, _⟩ := h2.get (List.getElem?_eq_getElem hi)
    exact ⟨vs, x, h1 H s, e⟩
  yld := fun i H x H' d s e y => by
    obtain ⟨T, u, rfl, hT, rfl, q1⟩ := y
    rw [numD_get] at e
    cases e1 : xs[i]? with
    | none => rw [e1] at e; cases e
    | some dx =>
      rw [e1] at e
      cases e
      obtain ⟨u', z1, r1⟩ := h2.get e1
      have z3 := q1 vs (h1 H s)
      rw [z1] at z3
      cases z3
      exact .inr ⟨T, _, _, rfl, hT, rfl, rfl, RpL.cons (by rw [Nat.zero_add]; exact int_rp) (RpL.cons r1 RpL.nil)⟩
  stop := fun i H s hi => by
    rw [numD_len] at hi
    exact ⟨vs, h1 H s, by rw [h2.length]; exact hi⟩
section
variable {X : Cx} {E : WX}
theorem ei_num {e : Expr} {m : M Rv} {p pos tpos : Pos} {elts : List Expr} {kk : Nat} (hg : Gl X "enumerate") (hm : X.mg "enumerate" = none) (ha : EV X E e m) (hs : starEach [e] X.env = [(false, eval e X.env)] := by rfl) :
    EI X E (.Tuple elts kk tpos) (.Call (.Name "enumerate" p) [e] [] pos) (mNum m) :=
  PI.conv (pi_numX hg hm (ea_cons ha ea_nil hs) hs) fun σ H R q => by
    obtain ⟨ba, O, Hf, s, R0, F⟩ := q
    refine ⟨ba, O, Hf, s, R0, F.bind.imp (fun as s1 F1 vs H1 Hf1 R1 e1 ok1 => ?_) fun x s' q => q⟩
    obtain ⟨ds, ed, F2⟩ := F1.lift
    match as, ok1, ed with
    | [.dat d], ok1, ed =>
      obtain ⟨xs, e2, rfl⟩ := Option.map_eq_some_iff.mp ed
      obtain ⟨v, r, rfl, r1, rfl⟩ := ok1
      obtain ⟨k, a, us, rfl, q1, p1⟩ := seqD_rp e2 r1
      exact ⟨k, a, us, rfl, q1 H1 R1.reg.sub, F2 _ H1 Hf1 R1 e1 (itok_num q1 p1)⟩
end
end Pu
/-! Pu34: zip of a text and a list or a tuple (printed from Pu12 by mkPu34.py). -/
namespace Pu
open PySem PySem.Spec PyProof.Rows L2
def chrV (x : Str) (i : Nat) : Option V := (x.cps[i]?).map fun c => .str ⟨#[c]⟩
def ItsX (K : PySem.W.Frag) (x : Str) (k2 : Bool) (b : Addr) : It where
  go i H := ∃ ys u y, SqX k2 K H b ys ∧ chrV x i = some u ∧ ys[i]? = some y
  yld i H v H' := ∃ T u y, v = .ref T ∧ H T = none ∧ H' = upd H T (.tup [u, y]) ∧ chrV x i = some u ∧ ∀ ys, SqX k2 K H b ys → ys[i]? = some y
  stop i H := ∃ ys : List V, SqX k2 K H b ys ∧ i ≤ x.cps.size ∧ i ≤ ys.length ∧ (i = x.cps.size ∨ i = ys.length)
def YSt (x : Str) (t : Tok) (k2 : Bool) (b z TI TO i1 i2 : Addr) (i : Nat) (h : Heap) : Prop := IsZip h z TI TO .none ∧ IsPair h TI (.ref i1) (.ref i2) ∧ (∃ x y, IsPair h TO x y) ∧ h.IsStrIter i1 (strIterType x) x t i ∧ IterX k2 h i2 b i
theorem ysep {z TI TO i1 i2 l1 l2 : Addr} (D : ZipApart z TI TO i1 i2 l1 l2) : ZipSep2 z TI TO i1 i2 [i1] [i2, l2] where
  TIz := D.TIz
  TOz := D.TOz
  TITO := D.TITO
  TIi1 := D.TIi1
  mem1 := by simp
  zf1 := by simp [D.i1z.symm]
  Tf1 := by simp [D.TOi1]
  TIi2 := D.TIi2
  mem2 := by simp
  zf2 := by simp [D.i2z.symm, D.l2z.symm]
  Tf2 := by simp [D.TOi2, D.l2TO.symm]
  sep1_2 := by simp [D.i12, D.l2i1.symm]
  sep2_1 := by simp [D.i12.symm]
theorem strIt_obj {h : Heap} {i : Addr} {ty : String} {x : Str} {t : Tok} {n : Nat} (q : h.IsStrIter i ty x t n) : ∃ o, h.get? i = some o ∧ ∀ v, o.data ≠ .cell v := by
  obtain ⟨o, e, _, d⟩ := q
  exact ⟨o, e, fun v q => by rw [d] at q; cases q⟩
theorem strIt_move {h h' : Heap} {i : Addr} {ty : String} {x : Str} {t : Tok} {n : Nat} (q : h.IsStrIter i ty x t n) (kp : ∀ o, h.get? i = some o → h'.get? i = some o) : h'.IsStrIter i ty x t n := by
  obtain ⟨o, e, r⟩ := q
  exact ⟨o, kp o e, r⟩
theorem turnY {P : Program} {w : World} {K : PySem.W.Frag} {elts : List Expr} {kk : Nat} {tpos : Pos} {sx : Str} {st0 : Tok} {k2 : Bool} {a b z TI TO i1 i2 : Addr} (D : ZipApart z TI TO i1 i2 a b) :
    Turn P w K (.Tuple elts kk tpos) (ItsX K sx k2 b) [z, TI, TO, i1, i2] z (YSt sx st0 k2 b z TI TO i1 i2) where
  mem := by simp
  obj := fun i h st c hc => by
    (obtain ⟨hz, hTI, ⟨x, y, hTO⟩, h1, h2⟩ := st)
    rcases five hc with q | q | q | q | q <;> subst q
    · exact ⟨_, hz, nofun⟩
    · exact ⟨_, hTI, nofun⟩
    · exact ⟨_, hTO, nofun⟩
    · exact strIt_obj h1
    · exact h2.obj
  keep := fun i h h' st k => by
    (obtain ⟨hz, hTI, ⟨x, y, hTO⟩, h1, h2⟩ := st)
    exact ⟨k z (by simp) _ hz, k TI (by simp) _ hTI, ⟨x, y, k TO (by simp) _ hTO⟩, strIt_move h1 (k i1 (by simp)), h2.move (k i2 (by simp))⟩
  item := fun X hP hw hK hc i pins s σ H E I hf st hg => by
    subst hP hw hK
    (obtain ⟨hz, hTI, ⟨x0, y0, hTO⟩, h1, h2⟩ := st)
    obtain ⟨ys, x, y, hqy, hx, hy⟩ := hg
    obtain ⟨its2, rv2, p2, _⟩ := hqy.conc I
    have l2 := rv2.length
    obtain ⟨cx, hcx, rfl⟩ := Option.map_eq_some_iff.mp hx
    have b1 : i < sx.cps.size := (Array.getElem?_eq_some_iff.mp hcx).1
    have b2 := (List.getElem?_eq_some_iff.mp hy).1
    have hh : X.A.in1.handled = none := I.ok.hd hc
    refine wpAny_pyNext_zipD2_item (ysep D) (Draws.text hh i1 sx st0) (drawsX k2 hh i2 b D.l2i2 its2.toArray) hz hTI hTO h1 ⟨h2, p2⟩ b1 (by rw [List.size_toArray]; omega)
      fun u u2 h' tk hu hu2 z' TO' st1 st2 hT hsz hk => ⟨_, rfl, ?_⟩
    refine wpAny_letOwnedTupleGo_zip (s := { s with heap := h', toks := tk }) z' fun h'' z'' sb => ?_
    obtain ⟨c', tk', hc', rfl⟩ := hu
    rw [hcx] at hc'
    cases hc'
    obtain ⟨v2, e2, ru2⟩ := rv2.get hy
    have e2' : its2[i]? = some u2 := by simpa using hu2
    rw [e2'] at e2
    cases e2
    have zl := Heap.lt_size hz
    have nz : s.heap.objs.size ≠ z := Nat.ne_of_gt zl
    have far : ∀ c o, c ∉ [z, TI, TO, i1, i2] → s.heap.get? c = some o → h''.get? c = some o := fun c o hb q => by
      have n : c ≠ z ∧ c ≠ TI ∧ c ≠ TO ∧ c ≠ i1 ∧ c ≠ i2 := by simpa using hb
      rw [sb.2 _ n.1]
      exact hk c o n.1 n.2.2.1 n.2.2.2.1 n.2.2.2.2 q
    have T' : h''.get? s.heap.objs.size = some { cls := .type "tuple", data := .seq #[.str ⟨#[cx]⟩ tk', u2] } := by rw [sb.2 _ nz]; exact hT
    have J := I.turnedNew (t' := tk) (ob := .tup [.str ⟨#[cx]⟩, y]) far hf (Nat.le_refl _) ⟨by show 2 ≤ sizeLine; decide, [.str ⟨#[cx]⟩ tk', u2], .cons ⟨_, rfl⟩ (.cons ru2 .nil), ⟨_, T', rfl, _, rfl⟩⟩
    refine ⟨.ref s.heap.objs.size, _, J, rfl, ⟨_, _, y, rfl, I.hok.fresh (Nat.le_refl _), rfl, hx, fun l hl => by rw [hl.same I hqy]; exact hy⟩, ⟨z'', ?_, ⟨.str ⟨#[cx]⟩ tk', u2, ?_⟩, ?_, ?_⟩, fun c hcm => ?_⟩
    · show h''.get? TI = _
      rw [sb.2 _ D.TIz]; exact hk _ _ D.TIz D.TITO D.TIi1 D.TIi2 hTI
    · show h''.get? TO = _
      rw [sb.2 _ D.TOz]; exact TO'
    · exact strIt_move st1 fun o q => by rw [sb.2 _ D.i1z]; exact q
    · exact st2.1.move fun o q => by rw [sb.2 _ D.i2z]; exact q
    · have : ∃ o, s.heap.get? c = some o := by
        rcases five hcm with q | q | q | q | q <;> subst q
        · exact ⟨_, hz⟩
        · exact ⟨_, hTI⟩
        · exact ⟨_, hTO⟩
        · obtain ⟨o, e, _⟩ := strIt_obj h1; exact ⟨o, e⟩
        · obtain ⟨o, e, _⟩ := h2.obj; exact ⟨o, e⟩
      obtain ⟨o, e⟩ := this
      rw [upd_ne (Nat.ne_of_lt (Heap.lt_size e))]
      exact (hf c hcm).1
  done := fun X hP hw hK hc i pins s σ H E I hf st hg => by
    subst hP hw hK
    (obtain ⟨hz, hTI, ⟨x0, y0, hTO⟩, h1, h2⟩ := st)
    obtain ⟨ys, hqy, le1, le2, hend⟩ := hg
    obtain ⟨its2, rv2, p2, _⟩ := hqy.conc I
    have l2 := rv2.length
    have hh : X.A.in1.handled = none := I.ok.hd hc
    refine wpAny_pyNext_zipD2_end (ysep D) (Draws.text hh i1 sx st0) (drawsX k2 hh i2 b D.l2i2 its2.toArray) hz hTI hTO h1 ⟨h2, p2⟩ le1 (by rw [List.size_toArray]; omega) (by simp only [List.size_toArray]; omega)
      fun h' tk hk => ⟨rfl, I.turnedL (t' := tk) (ch := [z, TI, TO, i1, i2]) (fun c o hb q => ?_) hf⟩
    have n : c ≠ z ∧ c ≠ TI ∧ c ≠ TO ∧ c ≠ i1 ∧ c ≠ i2 := by simpa using hb
    exact hk c o n.1 n.2.2.1 n.2.2.2.1 n.2.2.2.2 q
  self := fun _ _ _ _ _ st h => wpAny_pyIter_zip st.1 h
def iZipY (K : PySem.W.Frag) (ta : TA) : TI := fun σ H R => ta σ H fun vs H1 => ∃ x k2 b ys, vs = [.str x, .ref b] ∧ SqX k2 K H1 b ys ∧ R (ItsX K x k2 b) H1
theorem pi_zipY {X : Cx} {e e2 : Expr} {ta : TA} {p pos tpos : Pos} {elts : List Expr} {kk : Nat} (hg : Gl X "zip") (hm : X.mg "zip" = none) (ha : PA X [e, e2] ta)
    (hs : starEach
            [e, e2] X.env = (false, eval e X.env) :: starEach [e2] X.env := by rfl) (hpl : (backTo pos (starEach [e2] X.env)).any (·.1) = false := by rfl) :
    PI X (.Tuple elts kk tpos) (.Call (.Name "zip" p) [e, e2] [] pos) (iZipY X.K ta) := ⟨fun pins s σ H R I h => by
  refine Call_ (ld_blt I hg hm PyProof.Rows.boot_zip (PyProof.Rows.callWith_type1 (thn (ha.run pos pins s σ H _ I h) fun us s1 hz => ?_) hs hpl))
  obtain ⟨vs, H1, I1, r1, x, k2, b, ys, rfl, hqy, q⟩ := hz
  obtain ⟨t, e'⟩ : ∃ t, us = [.str x t, .ref b] := by
    cases r1 with
    | cons r rr => cases rr with
      | cons r' rr =>
        cases rr
        cases r'
        obtain ⟨t, rfl⟩ := r
        exact ⟨t, rfl⟩
  subst e'
  obtain ⟨its2, rv2, p2, lb⟩ := hqy.conc I1
  refine zip_begins2 (begins_text x t) (beginsX k2 b its2.toArray) trivial p2 fun h' hz hTI hTO h1 h2 hsz hk => wpAny_pyIter_zip hz ?_
  refine ⟨_, _, _, _, H1, rfl, I1.kept (t' := s1.toks) hk, turnY (st0 := t) (PySem.W.ktu_apart s1.heap.objs.size b b lb lb), ⟨hz, hTI, ⟨_, _, hTO⟩, ⟨_, h1, rfl, rfl⟩, .new k2 h2⟩, fun c hcm => ?_, q⟩
  have hle : (s1.heap.objs.size) ≤ c := by
    rcases five hcm with z | z | z | z | z <;> subst z
    · exact Nat.le_add_right _ _
    · exact Nat.le_add_right _ _
    · exact Nat.le_add_right _ _
    · exact Nat.le_refl _
    · exact Nat.le_add_right _ _
  exact I1.fpOk hle (I1.hok.fresh hle)⟩
/-! ### as data -/
def charsD (x : Str) : List D := x.cps.toList.map fun c => .str ⟨#[c]⟩
def pairsS : List Ar → Option (List D)
  | [.dat (.str x), .dat d2] => (seqD d2).map fun ys => List.zipWith (fun x y => .tuple [x, y]) (charsD x) ys
  | _ => none
def mZipS (m1 m2 : M Rv) : M (List D) := M.bind (mArgs [m1, m2]) fun as => M.lift (pairsS as)
theorem chars_get (x : Str) (i : Nat) : (charsD x)[i]? = (x.cps[i]?).map fun c => .str ⟨#[c]⟩ := by
  unfold charsD
  (rw [List.getElem?_map, Array.getElem?_toList])
theorem itok_zipS {K : PySem.W.Frag} {Hf : Hp} {x : Str} {k2 : Bool} {b : Addr} {ws : List V} {ys : List D} (h3 : ∀ H, Sub Hf H → SqX k2 K H b ws) (h4 : RpL K Hf ys ws) :
    ItOk K (ItsX K x k2 b) Hf (List.zipWith (fun x y => .tuple [x, y]) (charsD x) ys) where
  go := fun i H s hi => by
    rw [List.length_zipWith] at hi
    obtain ⟨y, e', _⟩ := h4.get (List.getElem?_eq_getElem (show i < ys.length by omega))
    have hc : i < x.cps.size := by
      have : (charsD x).length = x.cps.size := by unfold charsD; simp
      omega
    exact ⟨ws, _, y, h3 H s, by unfold chrV; rw [Array.getElem?_eq_getElem hc]; rfl, e'⟩
  yld := fun i H v H' d s e y => by
    obtain ⟨T, u, v, rfl, hT, rfl, q1, q2⟩ := y
    rw [List.getElem?_zipWith, chars_get] at e
    unfold chrV at q1
    cases e1 : x.cps[i]? with
    | none => rw [e1] at q1; cases q1
    | some c =>
      rw [e1] at q1 e
      cases q1
      cases e2 : ys[i]? with
      | none => rw [e2] at e; cases e
      | some dy =>
        rw [e2] at e
        cases e
        obtain ⟨v', z2, r2⟩ := h4.get e2
        have z4 := q2 ws (h3 H s)
        rw [z2] at z4
        cases z4
        exact .inr ⟨T, _, _, rfl, hT, rfl, rfl, RpL.cons str_rp (RpL.cons r2 RpL.nil)⟩
  stop := fun i H s hi => by
    have l2 := h4.length
    have : (charsD x).length = x.cps.size := by unfold charsD; simp
    rw [List.length_zipWith] at hi
    exact ⟨ws, h3 H s, by omega, by omega, by omega⟩
section
variable {X : Cx} {E : WX}
theorem ei_zipS {e e2 : Expr} {m1 m2 : M Rv} {p pos tpos : Pos} {elts : List Expr} {kk : Nat} (hg : Gl X "zip") (hm : X.mg "zip" = none) (ha : EV X E e m1) (hb : EV X E e2 m2)
    (hs : starEach [e, e2] X.env = (false, eval e X.env) :: starEach [e2] X.env := by rfl) (hs2 : starEach [e2] X.env = (false, eval e2 X.env) :: starEach [] X.env := by rfl) (hpl : (backTo pos (starEach [e2] X.env)).any (·.1) = false := by rfl) :
    EI X E (.Tuple elts kk tpos) (.Call (.Name "zip" p) [e, e2] [] pos) (mZipS m1 m2) :=
  PI.conv (pi_zipY hg hm (ea_cons ha (ea_cons hb ea_nil hs2) hs) hs hpl) fun σ H R q => by
    obtain ⟨ba, O, Hf, s, R0, F⟩ := q
    refine ⟨ba, O, Hf, s, R0, F.bind.imp (fun as s1 F1 vs H1 Hf1 R1 e1 ok1 => ?_) fun x s' q => q⟩
    obtain ⟨ds, ed, F2⟩ := F1.lift
    unfold pairsS at ed
    split at ed
    · rename_i x d2
      obtain ⟨ys, e3, rfl⟩ := Option.map_eq_some_iff.mp ed
      obtain ⟨v, r, rfl, r1, v', r', rfl, r2, rfl⟩ := ok1
      obtain rfl := rp_str (K := X.K) (Hf := Hf1) r1
      obtain ⟨k2, b, ws, rfl, q2, p2⟩ := seqD_rp e3 r2
      exact ⟨x, k2, b, ws, rfl, q2 H1 R1.reg.sub, F2 _ H1 Hf1 R1 e1 (itok_zipS q2 p2)⟩
    · cases ed
end
end Pu
/-! Pu35: sum, dict(pairs), d.get(k, x), k in d, is of bools, raise C(). -/
namespace Pu
open PySem PySem.Spec PyProof.Rows L2
/-! ### sum -/
def dSum : D → Option Rs
  | .list ds => (intsD ds).map fun ns => .dat (.int ns.sum)
  | _ => none
theorem o1_sum {X : Cx} : Op1 X.K (fun v => rSum X.K [v]) dSum := by
  intro Hf H d x res Q e b er q
  cases d with
  | list ds =>
    obtain ⟨ns, en, rfl⟩ := Option.map_eq_some_iff.mp er
    obtain ⟨a, vs, rfl, h1, h2⟩ := brp_list e b
    refine ⟨a, ns, rfl, ?_, q _ _ (.old int_rp)⟩
    rw [← ints_rp en h2]
    exact h1
  | _ => cases er
/-! ### dict(xs) of pairs -/
def pairsKD : List D → Option (List (D × D))
  | [] => some []
  | .tuple [k, v] :: r => if (keyD k).isSome then (pairsKD r).map ((k, v) :: ·) else none
  | _ => none
def mergeD (kvs : List (D × D)) : List (D × D) → List (D × D)
  | [] => kvs
  | (k, v) :: r => mergeD (putD kvs k v) r
def dDictP : D → Option Rs
  | .list ds => (pairsKD ds).map fun kvs => .dat (.dict (mergeD [] kvs))
  | _ => none
theorem pairs_paired {K : PySem.W.Frag} {Hf H : Hp} (e : Sub Hf H) : ∀ {ds : List D} {vs : List V} {kvs : List (D × D)}, pairsKD ds = some kvs → RpL K Hf ds vs → ∃ (ps : List Addr) (ws : List (Key × V)), vs = ps.map V.ref ∧ Paired (fun p kv => SqT K H p [kV kv.1, kv.2]) ps ws ∧ RpK K Hf kvs ws
  | [], vs, kvs, h, r => by
    cases h
    exact ⟨[], [], by rw [r.nil_inv]; rfl, .nil, by simp only [RpK]⟩
  | d :: ds, vs, kvs, h, r => by
    unfold pairsKD at h
    split at h
    · cases ‹_ :: _ = _›
    · rename_i k v r' heq
      cases heq
      split at h
      · rename_i hk
        obtain ⟨kvs', h1, rfl⟩ := Option.map_eq_some_iff.mp h
        obtain ⟨w, ws0, rfl, r1, r2⟩ := r.cons_inv
        obtain ⟨ps, ws, rfl, p1, p2⟩ := pairs_paired e h1 r2
        simp only [Rp] at r1
        obtain ⟨a, us, rfl, h2, h3⟩ := r1
        obtain ⟨x, _, rfl, q1, q2⟩ := h3.cons_inv
        obtain ⟨y, _, rfl, q3, q4⟩ := q2.cons_inv
        rw [q4.nil_inv] at h2
        obtain ⟨kk, ek⟩ := Option.isSome_iff_exists.mp hk
        have hx := key_rp q1 ek
        subst hx
        exact ⟨a :: ps, (kk, y) :: ws, rfl, .cons (e.sqT h2) p1, RpK.cons ek q3 p2⟩
      · cases h
    · cases h
theorem merge_rp {K : PySem.W.Frag} {H : Hp} : ∀ {kvs : List (D × D)} {ws : List (Key × V)} {acc : List (D × D)} {wc : List (Key × V)}, RpK K H acc wc → RpK K H kvs ws → RpK K H (mergeD acc kvs) (mergeK wc ws)
  | [], ws, acc, wc, h, r => by
    rw [r.nil_inv]
    exact h
  | (k, d) :: r, ws, acc, wc, h, q => by
    obtain ⟨kk, v, t, rfl, h1, h2, h3⟩ := q.cons_inv
    show RpK K H (mergeD (putD acc k d) r) (mergeK (putK wc kk v) t)
    exact merge_rp (h.put h1 h2) h3
theorem o1_dictP {X : Cx} : Op1 X.K (fun v H Q => ∃ (a : Addr) (ps : List Addr) (kvs : List (Key × V)), [v] = [.ref a] ∧ SqL X.K H a (ps.map V.ref) ∧ Paired (fun p kv => SqT X.K H p [kV kv.1, kv.2]) ps kvs ∧ ∀ p, H p = none → Q (.ref p) (upd H p (.dK (mergeK [] kvs)))) dDictP := by
  intro Hf H d x res Q e b er q
  cases d with
  | list ds =>
    obtain ⟨kvs, ek, rfl⟩ := Option.map_eq_some_iff.mp er
    obtain ⟨a, vs, rfl, h1, h2⟩ := brp_list e b
    obtain ⟨ps, ws, rfl, p1, p2⟩ := pairs_paired e ek h2
    exact ⟨a, ps, ws, rfl, h1, p1, fun p hp => q _ _ (.dct hp (merge_rp (by simp only [RpK]) p2))⟩
  | _ => cases er
/-! ### k in d -/
def dInK (x c : D) : Option Bool := match c with
  | .dict kvs => (keyD x).map fun k => (lookD kvs k).isSome
  | c => dInB x c
theorem look_none {K : PySem.W.Frag} {H : Hp} {k : Key} : ∀ {kvs : List (D × D)} {ws : List (Key × V)}, RpK K H kvs ws → (lookD kvs k).isSome = (valV ws k).isSome
  | [], ws, h => by
    rw [h.nil_inv]; rfl
  | (a, b) :: r, ws, h => by
    obtain ⟨kk, v, t, rfl, h1, h2, h3⟩ := h.cons_inv
    by_cases q : kk = k
    · rw [valV_pos (p := (kk, v)) q]
      unfold lookD
      rw [List.find?_cons_of_pos (by simp [h1, q])]
      rfl
    · rw [valV_neg (p := (kk, v)) q, ← look_none h3]
      unfold lookD
      rw [List.find?_cons_of_neg (by simp [h1, q])]
section
variable {X : Cx}
abbrev rInK : R2 := fun x y H Q => ∃ a ov, y = .ref a ∧ DGet H a x ov ∧ Q (.bl ov.isSome) H
abbrev rNotInK : R2 := fun x y H Q => ∃ a ov, y = .ref a ∧ DGet H a x ov ∧ Q (.bl (!ov.isSome)) H
theorem op_inK (hu : X.A.units + 64 < cLine) : OpR X (compareOp .In) rInK := by
  (intro pins s σ H x y v u Q I rx ry h)
  obtain ⟨a, ov, rfl, g, q⟩ := h
  cases ry
  exact d_in (by omega) I g rx fun s3 I3 => ⟨.bl ov.isSome, H, I3, rfl, q⟩
theorem op_notInK (hu : X.A.units + 64 < cLine) : OpR X (compareOp .NotIn) rNotInK := by
  (intro pins s σ H x y v u Q I rx ry h)
  obtain ⟨a, ov, rfl, g, q⟩ := h
  cases ry
  exact d_notIn (by omega) I g rx fun s3 I3 => ⟨.bl (!ov.isSome), H, I3, rfl, q⟩
abbrev rInA (K : PySem.W.Frag) : R2 := fun x y H Q => rInK x y H Q ∨ rD2 K dInB x y H Q
abbrev rNotInA (K : PySem.W.Frag) : R2 := fun x y H Q => rNotInK x y H Q ∨ rD2 K (fun a b => (dInB a b).map (!·)) x y H Q
theorem op_inA (hu : X.A.units + 64 < cLine) : OpR X (compareOp .In) (rInA X.K) := OpR.or (op_inK hu) (op_inD hu)
theorem op_notInA (hu : X.A.units + 64 < cLine) : OpR X (compareOp .NotIn) (rNotInA X.K) := OpR.or (op_notInK hu) (op_notInD hu)
abbrev cInK : D → D → Option Rs := fun a b => (dInK a b).map fun k => .dat (.bool k)
abbrev cNotInK : D → D → Option Rs := fun a b => ((dInK a b).map (!·)).map fun k => .dat (.bool k)
theorem op2_inA {K : PySem.W.Frag} : Op2 K (rInA K) cInK := by
  intro Hf H d1 d2 x y res Q e b1 b2 er q
  obtain ⟨k, ek, rfl⟩ := Option.map_eq_some_iff.mp er
  by_cases hd : ∃ kvs, d2 = .dict kvs
  · obtain ⟨kvs, rfl⟩ := hd
    obtain ⟨kk, e1, rfl⟩ := Option.map_eq_some_iff.mp (show (keyD d1).map _ = some k from ek)
    obtain ⟨a, ws, rfl, h1, h2⟩ := brp_dict e b2
    obtain rfl := keyB_rp b1 e1
    refine .inl ⟨a, _, rfl, DGet.k h1, ?_⟩
    rw [← look_none h2]
    exact q _ _ (.old bl_rp)
  · refine .inr ⟨Hf, d1, d2, k, e, b1, b2, ?_, q _ _ (.old bl_rp)⟩
    cases d2 with
    | dict kvs => exact absurd ⟨kvs, rfl⟩ hd
    | _ => exact ek
theorem op2_notInA {K : PySem.W.Frag} : Op2 K (rNotInA K) cNotInK := by
  intro Hf H d1 d2 x y res Q e b1 b2 er q
  obtain ⟨k, ek, rfl⟩ := Option.map_eq_some_iff.mp er
  obtain ⟨k0, ek0, rfl⟩ := Option.map_eq_some_iff.mp ek
  by_cases hd : ∃ kvs, d2 = .dict kvs
  · obtain ⟨kvs, rfl⟩ := hd
    obtain ⟨kk, e1, rfl⟩ := Option.map_eq_some_iff.mp (show (keyD d1).map _ = some k0 from ek0)
    obtain ⟨a, ws, rfl, h1, h2⟩ := brp_dict e b2
    obtain rfl := keyB_rp b1 e1
    refine .inl ⟨a, _, rfl, DGet.k h1, ?_⟩
    rw [← look_none h2]
    exact q _ _ (.old bl_rp)
  · refine .inr ⟨Hf, d1, d2, !k0, e, b1, b2, ?_, q _ _ (.old bl_rp)⟩
    have : dInB d1 d2 = some k0 := by
      cases d2 with
      | dict kvs => exact absurd ⟨kvs, rfl⟩ hd
      | _ => exact ek0
    show (dInB d1 d2).map (!·) = some (!k0)
    rw [this]; rfl
end
/-! ### is, is not of bools (here) -/
def cIsB (a b : D) : Option Rs := match a, b with
  | .bool i, .bool j => some (.dat (.bool (decide (i = j))))
  | _, _ => none
def cNotB (a b : D) : Option Rs := match a, b with
  | .bool i, .bool j => some (.dat (.bool (!decide (i = j))))
  | _, _ => none
theorem op2_isB {K : PySem.W.Frag} : Op2 K rIsB cIsB := by
  intro Hf H d1 d2 x y res Q e b1 b2 er q
  unfold cIsB at er
  split at er
  · cases er
    exact ⟨_, _, brp_bl b1, brp_bl b2, q _ _ (.old bl_rp)⟩
  · cases er
theorem op2_notB {K : PySem.W.Frag} : Op2 K rNotB cNotB := by
  intro Hf H d1 d2 x y res Q e b1 b2 er q
  unfold cNotB at er
  split at er
  · cases er
    exact ⟨_, _, brp_bl b1, brp_bl b2, q _ _ (.old bl_rp)⟩
  · cases er
/-! ### d.get(k, x) -/
def dGet2 (d k x : D) : Option D := match d with
  | .dict kvs => (keyD k).map fun kk => (lookD kvs kk).getD x
  | _ => none
def isDictD : D → Bool
  | .dict _ => true
  | _ => false
def mGet2 (md mk mx : M Rv) : M Rv := M.bind md fun r1 => M.bind (peek (settle r1)) fun d0 => if isDictD d0 then M.bind mk fun r2 => (match r2 with
  | .dat k => M.bind mx fun r3 => M.bind (retain r3) fun d3 => M.bind (peek (settle r1)) fun d1 => M.bind (M.lift (dGet2 d1 k d3)) fun d => M.pure (.dat d)
  | _ => M.stuck) else M.stuck
section
variable {X : Cx} {E : WX} {o e f : Expr} {apos cpos : Pos} {md mk' mx : M Rv}
theorem isD_of {K : PySem.W.Frag} {Hf H : Hp} {kvs : List (D × D)} {v : V} (e : Sub Hf H) (b : BRp K Hf H (.dict kvs) v) : ∃ a, v = .ref a ∧ IsD H a := by
  obtain ⟨a, ws, rfl, h1, _⟩ := brp_dict e b
  exact ⟨a, rfl, .inl ⟨ws, .inl h1⟩⟩
theorem ev_get2 (hu : X.A.units + 64 < cLine) (ho : EV X E o md) (he : EV X E e mk') (hf : EV X E f mx) (m : M2 X o "get" apos e f cpos) : EV X E (.Call (.Attribute o "get" apos) [e, f] [] cpos) (mGet2 md mk' mx) :=
  PE.conv (pe_dget2 (by omega) ho he hf m) fun σ H Q q => by
    refine tM.bind q fun ba O Hf s r1 v1 H1 R1 ok1 F1 => ?_
    obtain ⟨Hf1, e1, R1', lt⟩ := R1.settle ok1
    obtain ⟨d0, F2, b0⟩ := peek_late R1' lt F1.bind
    cases d0 with
    | dict kvs0 =>
      obtain ⟨a, rfl, hD⟩ := isD_of R1'.reg.sub b0
      refine ⟨a, rfl, hD, ba, O, Hf1, s, R1', F2.bind.imp (fun r2 s2 F3 v2 H2 Hf2 R2 e2 ok2 => ?_) fun x s' q => ExW.mono e1 q⟩
      cases r2 with
      | dat k =>
        refine ⟨ba, O, Hf2, s2, R2, F3.bind.imp (fun r3 s3 F4 v3 H3 Hf3 R3 e3 ok3 => ?_) fun x s' q => ExW.mono (Same.trans e1 e2) q⟩
        obtain ⟨d3, s4, Hf4, F5, e4, R4, p4⟩ := retain_ok R3 ok3 F4.bind
        obtain ⟨d1, F6, b1⟩ := peek_late R4 (lt.mono (Same.trans e2 (Same.trans e3 e4))) F5.bind
        obtain ⟨d, ed, F7⟩ := F6.bind.lift
        cases d1 with
        | dict kvs =>
          obtain ⟨kk, ek, rfl⟩ := Option.map_eq_some_iff.mp (show (keyD k).map _ = some d from ed)
          obtain ⟨a', ws, ea, h1, h2⟩ := brp_dict R4.reg.sub b1
          cases ea
          have hk := key_rp (K := X.K) (H := Hf2) ok2 ek
          subst hk
          refine ⟨_, DGet.k h1, ?_⟩
          refine F7 _ H3 Hf4 R4 (Same.trans e1 (Same.trans e2 (Same.trans e3 e4))) ?_
          cases el : lookD kvs kk with
          | none =>
            have := look_none (k := kk) h2
            rw [el] at this
            have hv : valV ws kk = none := by
              cases q : valV ws kk with
              | none => rfl
              | some _ => rw [q] at this; cases this
            rw [hv]
            exact p4
          | some d' =>
            obtain ⟨v', ev, r'⟩ := lookD_rp h2 el
            rw [ev]
            exact r'
        | _ => cases ed
      | fresh ds => exact F3.elim
      | slot i => exact F3.elim
      | bag => exact F3.elim
      | ob n => exact F3.elim
      | freshK kvs => exact F3.elim
    | _ => exact F2.elim
end
/-! ### raise C() -/
section
variable {X : Cx} {E : WX}
theorem pmk_own0 {C : Addr} {bmB : List Value} {B newId initId : String} {x : Str} {p pos : Pos} (F : ExcBaseFacts B newId initId bmB) (q : PySem.W.excIn X.K C bmB newId = true) (gC : X.mg x = some (.ref C))
    (kC : PySem.W.keepIn X.K (.ref C) = true) (r : Raises X (.ref C)) (hg : Gl X x) (hdb : (x == ("__debug__" : Str)) = false := by decide) : PMk X (.Call (.Name x p) [] [] pos) (fun _ H Q => Q (.ref C) none H) := by
  intro pins s σ H Q I h
  (refine wpAny_Call_Name_kw (ld_glob I hg gC ?_ hdb))
  refine PySem.W.callWith_K0 I.kIn kC ?_
  obtain ⟨bm, N, nm, qn, bs, hdct, sn, sub, ab, col, dd, k0, k1, k2, k3, k5, mN, hC, hN, hni, T⟩ := exc_obj I.kIn q
  refine wpAny_call_exc_subT (rest := []) F T hC hN hni (fun h' e hm => ?_) (by show 0 ≤ sizeLine; exact Nat.zero_le _)
  exact mk_of I hm r h (I.hok.gone hm.new)
def mRaise0 (c : Str) : M Fl := fun s => some (s, .error ⟨c, []⟩)
theorem es_raise0 {C : Addr} {xn : Str} {np pos pos' : Pos} (hc : X.calm = true) (tk : Takes X E) (hm : X.mg xn = some (.ref C)) (h : PMk X (.Call (.Name xn np) [] [] pos) (fun _ H Q => Q (.ref C) none H)) :
    ES X E (.Raise (some (.Call (.Name xn np) [] [] pos)) none pos') (mRaise0 xn) :=
  PS.conv (ps_raise hc tk h) fun D σ H q => by
    obtain ⟨ba, O, Hf, s, R0, F⟩ := q
    exact F σ H Hf _ _ R0 (Same.refl _) ⟨hm, rfl⟩
end
end Pu
/-! Pu36: try/except without a name, tuple(range(n)), a, b, c = .. with lists. -/
namespace Pu
open PySem PySem.Spec PyProof.Rows L2
/-! ### try: .. except C: .. -/
def mTry0 (c : Str) (mb mh : M Fl) : M Fl := fun s => match mb s with
  | some (s', .error x) => if x.cls = c then (match mh s' with
    | some (s2, .ok fl) => some (s2, .ok fl)
    | _ => none) else none
  | r => r
section
variable {X : Cx} {E : WX}
theorem es_try0 {x : Str} {C : Addr} {body suite : List Stmt} {b₀ : Stmt} {np pos pos' : Pos} {mb mh : M Fl} (hs : X.stack = X.env :: X.outer) (hf : X.env.frame = some X.env.locals)
    (hg : Gl X x) (hd : (x == ("__debug__" : Str)) = false) (hm : X.mg x = some (.ref C)) (he : PySem.W.exmOne X.K (.ref C) (.ref C) = some true) (tk : Takes X E)
    (hb : ∀ (W : WX) (pn : List (Addr × Obj)) (xe : Value → Shared → Prop), Takes (X.tr pn xe) W → ESs (X.tr pn xe) W body mb)
    (hsu : ∀ (a : Addr) (oe : Obj) (cls : Value) (d : Option Addr) (pn : List (Addr × Obj)), Zc cls d oe → (∃ vs, oe.data = .fields vs) → ESs (X.suite a ((a, oe) :: pn)) W0 (b₀ :: suite) mh) :
    ES X E (.Try body [.ExceptHandler (some (.Name x np)) none (b₀ :: suite) pos'] [] [] pos) (mTry0 x mb mh) :=
  PS.conv (ps_try_only (tb := fun W => tMS X.K X.mg W mb) (ts := fun _ _ _ => tMS X.K X.mg W0 mh) hs hf ⟨hg, hd, .inl hm⟩ tk (fun W pn xe t _ => hb W pn xe t) hsu) fun D σ H q => by
    obtain ⟨ba, O, Hf, s, R0, F⟩ := q
    refine ⟨ba, O, Hf, s, R0, ?_⟩
    unfold mTry0 at F
    cases em : mb s with
    | none => rw [em] at F; exact F.elim
    | some q =>
      obtain ⟨s', r⟩ := q
      rw [em] at F
      cases r with
      | ok fl => exact F
      | error xx =>
        intro σ' H' Hf' c d R' e' ex
        simp only at F
        split at F
        · rename_i hcls
          have hc : c = .ref C := by
            have z := ex.1
            rw [hcls, hm] at z
            exact (Option.some.inj z).symm
          subst hc
          refine ⟨true, he, fun _ a ha => ?_, fun z => by cases z⟩
          refine ⟨ba, O, Hf', s', R', ?_⟩
          cases eh : mh s' with
          | none => rw [eh] at F; exact F.elim
          | some q =>
            obtain ⟨s2, r2⟩ := q
            rw [eh] at F
            cases r2 with
            | error _ => exact F.elim
            | ok fl =>
              intro σ2 H2 Hf2 R2 e2
              exact F σ2 H2 Hf2 R2 (Same.trans e' e2)
        · exact F.elim
/-! ### tuple(range(n)) -/
def dRgT : D → Option Rs
  | .int j => if -(2 ^ 62) ≤ j ∧ j ≤ 2 ^ 24 then some (.dat (.tuple (rangeD 0 j.toNat))) else none
  | _ => none
theorem ev_rgT {a : Expr} {m : M Rv} {p p2 pos pos2 : Pos} (hc : X.calm = true) (hg : Gl X "tuple") (hm : X.mg "tuple" = none) (hg2 : Gl X "range") (hm2 : X.mg "range" = none) (ha : EV X E a m) (na : starEach [a] X.env = (false, eval a X.env) :: starEach [] X.env := by rfl)
    (na2 : starEach [.Call (.Name "range" p2) [a] [] pos2] X.env = (false, eval (.Call (.Name "range" p2) [a] [] pos2) X.env) :: starEach [] X.env := by rfl) : EV X E (.Call (.Name "tuple" p) [.Call (.Name "range" p2) [a] [] pos2] [] pos) (mUn dRgT m) :=
  PE.conv (pe_tupRg hc hg hm (prg_1 hg2 hm2 ha na) na2) fun σ H Q q => un_conv (r := fun x H1 Q => ∃ b, x = .int b ∧ RgOk 0 b ∧ ∀ q, H1 q = none → Q (.ref q) (upd H1 q (.tup (rgV 0 b)))) (fun Hf H d x res Q e b er q => by
    cases d with
    | int j =>
      unfold dRgT at er
      simp only at er
      split at er
      · rename_i hj
        cases er
        obtain rfl := brp_int b
        refine ⟨j, rfl, ⟨by omega, by omega, hj.1, by omega, by omega⟩, fun p hp => q _ _ (.tup hp ?_)⟩
        unfold rangeD rgV
        rw [show j - 0 = j by omega]
        exact RpL.range 0 _
      · cases er
    | _ => cases er) q
end
/-! ### a, b, c = .. with lists that nobody holds -/
def mVals : List (M Rv) → M (List Sl)
  | [] => M.pure []
  | m :: ms => M.bind m fun r => M.bind (M.lift (slOf r)) fun l => M.bind (mVals ms) fun ls => M.pure (l :: ls)
def set3 (i j l : Nat) : List Sl → M Fl
  | [a, b, c] => fun s => some ({ s with ρ := ((s.ρ.set i a).set j b).set l c }, .ok .nx)
  | _ => M.stuck
def mParL (i j l : Nat) (ms : List (M Rv)) : M Fl := M.bind (mVals ms) (set3 i j l)
/-- new contents for names: nobody holds their lists, no two are one -/
inductive SlsOk (K : PySem.W.Frag) (ba : Option Addr) (O Hf H : Hp) (σ : L2.St) (s : S) : List Sl → List V → Prop
  | nil : SlsOk K ba O Hf H σ s [] []
  | cons {l : Sl} {v : V} {ls : List Sl} {vs : List V} : SlOk K ba O Hf H l (some v) → (∀ ds, l = .own ds → (∀ (k : Nat) es, s.ρ[k]? = some (.own es) → σ[k]? ≠ some (some v)) ∧ ∀ (l' : Sl) (v' : V), (l', v') ∈ ls.zip vs → ∀ es, l' = .own es → v' ≠ v) →
      SlsOk K ba O Hf H σ s ls vs → SlsOk K ba O Hf H σ s (l :: ls) (v :: vs)
section
variable {K : PySem.W.Frag} {mg : Str → Option Value} {E : WX} {ba : Option Addr} {O O' Hf Hf' H H' : Hp} {σ : L2.St} {s : S} {ls : List Sl} {vs : List V}
theorem SlsOk.less (h : SlsOk K ba O' Hf H σ s ls vs) (e : Same O O') : SlsOk K ba O Hf H σ s ls vs := by
  induction h with
  | nil => exact .nil
  | cons h1 h2 _ ih =>
    refine .cons ?_ h2 ih
    rename_i l v ls vs _
    cases l with
    | own ds =>
      obtain ⟨a, q1, ws, k1, k2, k3, k4⟩ := h1
      refine ⟨a, q1, ws, k1, k2, ?_, k4⟩
      cases q : O a with
      | none => rfl
      | some x => rw [e _ _ q] at k3; cases k3
    | no => exact h1
    | dat d => exact h1
    | bag => exact h1
    | ob n => exact h1
theorem SlsOk.apart (h : SlsOk K ba O' Hf H σ s ls vs) {q : Addr} {o : HO} (hq : O' q = some o) : ∀ (l' : Sl) (v' : V), (l', v') ∈ ls.zip vs → ∀ es, l' = .own es → v' ≠ .ref q := by
  induction h with
  | nil => intro l' v' hm; simp at hm
  | cons h1 _ _ ih =>
    intro l' v' hm es he
    rw [List.zip_cons_cons] at hm
    rcases List.mem_cons.mp hm with hm | hm
    · cases hm
      subst he
      obtain ⟨a, q1, ws, k1, k2, k3, k4⟩ := h1
      intro z
      rw [z] at q1
      cases q1
      rw [hq] at k3
      cases k3
    · exact ih l' v' hm es he
def tVals (K : PySem.W.Frag) (mg : Str → Option Value) (E : WX) : List (M Rv) → TA
  | [] => tNil
  | m :: ms => tCons (tM K mg E m) (tVals K mg E ms)
theorem vals_conv : ∀ (ms : List (M Rv)) (O Hf H : Hp) (s : S) (Q : List V → Hp → Prop), Rep K ba O Hf H σ s →
    Fits (mVals ms s) (fun ls s' => ∀ vs H' Hf', Rep K ba O Hf' H' σ s' → Same Hf Hf' → SlsOk K ba O Hf' H' σ s' ls vs → Q vs H') (ExW K mg E ba O Hf σ) → tVals K mg E ms σ H Q
  | [], O, Hf, H, s, Q, R, F => F [] H Hf R (Same.refl _) .nil
  | m :: ms, O, Hf, H, s, Q, R, F => by
    refine ⟨ba, O, Hf, s, R, F.bind.imp (fun r s1 F1 v H1 Hf1 R1 e1 ok1 => ?_) fun x s' q => q⟩
    obtain ⟨l, el, F2⟩ := F1.bind.lift
    cases r with
    | dat d =>
      cases el
      refine vals_conv ms O Hf1 H1 s1 _ R1 (F2.bind.imp (fun ls s2 F3 vs H2 Hf2 R2 e2 ok2 => ?_) fun x s' q => ExW.mono e1 q)
      exact F3 (v :: vs) H2 Hf2 R2 (Same.trans e1 e2) (.cons ⟨v, rfl, Rp.mono e2 _ _ ok1⟩ (fun ds z => nomatch z) ok2)
    | fresh ds =>
      cases el
      obtain ⟨q, rfl, ⟨us, k1, k2, k3, k4, k5⟩, hu⟩ := ok1
      have R1' := R1.outer k1 k2 k4 hu
      have so : Same O (upd O q (.lst us)) := Same.updN k3
      refine vals_conv ms (upd O q (.lst us)) Hf1 H1 s1 _ R1' (F2.bind.imp (fun ls s2 F3 vs H2 Hf2 R2 e2 ok2 => ?_) fun x s' qq => ?_)
      · have hq : H2 q = some (.lst us) := R2.reg.out q _ upd_same
        have n2 : Hf2 q = none := by
          cases z : Hf2 q with
          | none => rfl
          | some o =>
            have z' := R2.reg.dis q (by rw [z]; simp)
            rw [upd_same] at z'; cases z'
        refine F3 (.ref q :: vs) H2 Hf2 (R2.less so) (Same.trans e1 e2) (.cons ⟨q, rfl, us, hq, n2, k3, k4, RpL.mono e2 _ _ k5⟩ (fun ds' _ => ⟨fun k es e z => ?_, fun l' v' hm es he => ok2.apart upd_same l' v' hm es he⟩) (ok2.less so))
        obtain ⟨c, z1, ws, _, _, w3, _⟩ := R2.slot k _ _ e z
        cases z1
        rw [upd_same] at w3
        cases w3
      · intro H' Hf' c d R' e' ex
        exact qq H' Hf' c d (R'.less so) (Same.trans e1 e') ex
    | slot i => cases el
    | bag => cases el
    | ob n => cases el
    | freshK kvs => cases el
/-- a name's new content, beside others that wait -/
theorem SlsOk.store {i : Nat} {l : Sl} {v : V} (h : SlsOk K ba O Hf H σ s ls vs) (hl : ∀ ds, l = .own ds → ∀ (l' : Sl) (v' : V), (l', v') ∈ ls.zip vs → ∀ es, l' = .own es → v' ≠ v) (len : s.ρ.length = σ.length) :
    SlsOk K ba O Hf H (σ.set i (some v)) { s with ρ := s.ρ.set i l } ls vs := by
  induction h with
  | nil => exact .nil
  | cons h1 h2 _ ih =>
    rename_i l1 v1 ls vs _
    refine .cons h1 (fun ds z => ⟨fun k es e => ?_, (h2 ds z).2⟩) (ih fun ds z l' v' hm => hl ds z l' v' (by rw [List.zip_cons_cons]; exact List.mem_cons_of_mem _ hm))
    by_cases q : i = k
    · subst q
      have hi : i < s.ρ.length := by
        have := (List.getElem?_eq_some_iff.mp e).1
        simpa using this
      rw [List.getElem?_set_self hi] at e
      rw [List.getElem?_set_self (by rw [← len]; exact hi)]
      intro w
      have w' := Option.some.inj (Option.some.inj w)
      exact hl es (Option.some.inj e) l1 v1 (by rw [List.zip_cons_cons]; exact List.mem_cons_self) ds z w'.symm
    · rw [List.getElem?_set_ne q] at e ⊢
      exact (h2 ds z).1 k es e
end
section
variable {X : Cx} {E : WX}
theorem es_parL {i j l : Nat} {x y z : Str} {a b c : Expr} {m1 m2 m3 : M Rv} {px py pz pt pos : Pos} {kt k2 pt2} (hc : X.calm = true) (hN : X.N.Nodup) (hi : X.N[i]? = some x) (hj : X.N[j]? = some y) (hl : X.N[l]? = some z) (hij : i ≠ j) (hil : i ≠ l) (hjl : j ≠ l)
    (hx : X.env.scope.names.lookup x = some .local) (hy : X.env.scope.names.lookup y = some .local) (hz : X.env.scope.names.lookup z = some .local) (h1 : EV X E a m1) (h2 : EV X E b m2) (h3 : EV X E c m3)
    (hw : swappedStores
            [.Tuple [.Name x px, .Name y py, .Name z pz] kt pt] (.Tuple [a, b, c] k2 pt2) X.env = pure (some [x, y, z]))
    (hs : swapsWithSole [.Tuple [.Name x px, .Name y py, .Name z pz] kt pt] (.Tuple [a, b, c] k2 pt2) pos.line X.env = pure false := by rfl)
    (n1 : starEach [a, b, c] X.env = (false, eval a X.env) :: starEach [b, c] X.env := by rfl) (n2 : starEach [b, c] X.env = (false, eval b X.env) :: starEach [c] X.env := by rfl) (n3 : starEach [c] X.env = (false, eval c X.env) :: starEach [] X.env := by rfl) :
    ES X E (.Assign [.Tuple [.Name x px, .Name y py, .Name z pz] kt pt] (.Tuple [a, b, c] k2 pt2) pos) (mParL i j l [m1, m2, m3]) :=
  PS.conv (ps_par3 (ta := tVals X.K X.mg E [m1, m2, m3]) hc hN hi hj hl hij hil hjl hx hy hz (pa_cons h1 (pa_cons h2 (pa_cons h3 pa_nil n3) n2) n1) hw hs) fun D σ H q => by
    obtain ⟨ba, O, Hf, s, R0, F⟩ := q
    refine vals_conv [m1, m2, m3] O Hf H s _ R0 (F.bind.imp (fun ls s1 F1 vs H1 Hf1 R1 e1 ok1 => ?_) fun x s' q => ExS.at q)
    unfold set3 at F1
    split at F1
    · rename_i a b c
      cases ok1 with
      | cons p1 q1 r1 =>
        cases r1 with
        | cons p2 q2 r2 =>
          cases r2 with
          | cons p3 q3 r3 =>
            cases r3
            rename_i v1 v2 v3
            refine ⟨v1, v2, v3, rfl, ?_⟩
            have S1 : SlsOk X.K ba O Hf1 H1 σ s1 [b, c] [v2, v3] := .cons p2 q2 (.cons p3 q3 .nil)
            have RA := R1.store (i := i) p1 fun ds z k es nk e => (q1 ds z).1 k es e
            have SA := S1.store (i := i) (l := a) (v := v1) (fun ds z l' v' hm es he => (q1 ds z).2 l' v' hm es he) R1.len
            cases SA with
            | cons p2' q2' r2' =>
              have RB := RA.store (i := j) p2' fun ds z k es nk e => (q2' ds z).1 k es e
              have SB := r2'.store (i := j) (l := b) (v := v2) (fun ds z l' v' hm es he => (q2' ds z).2 l' v' hm es he) RA.len
              cases SB with
              | cons p3' q3' _ =>
                have RC := RB.store (i := l) p3' fun ds z k es nk e => (q3' ds z).1 k es e
                exact F1 _ H1 Hf1 RC e1
    · exact F1.elim
end
end Pu
/-! Pu37: {k: v} with a reckoned key; dicts of the module. -/
namespace Pu
open PySem PySem.Spec PyProof.Rows L2
/-! ### {k: v} -/
def mDict1 (mk mv : M Rv) : M Rv := M.bind mk fun rk => M.bind mv fun rv => M.bind (retain rv) fun d => match rk with
  | .dat k => if (keyD k).isSome then M.pure (.freshK [(k, d)]) else M.stuck
  | _ => M.stuck
section
variable {X : Cx} {E : WX} {pos : Pos}
theorem ev_dict1 {k v : Expr} {mk' mv : M Rv} (hk : EV X E k mk') (hv : EV X E v mv) : EV X E (.Dict [some k] [v] pos) (mDict1 mk' mv) :=
  PE.conv (pe_disp (pps_cons hk hv pps_nil) rfl rfl (by simp) (Nat.le_of_ble_eq_true rfl)) fun σ H Q q => by
    obtain ⟨ba, O, Hf, s, R0, F⟩ := q
    intro p hp
    obtain ⟨f1, f2, f3⟩ := R0.reg.free hp
    have so : Same O (upd O p (.dK [])) := Same.updN f2
    have R1 : Rep X.K ba (upd O p (.dK [])) Hf (upd H p (.dK [])) σ s := by
      refine (R0.grow (o := .dK []) hp).outer upd_same f1 f3 fun i es e2 e3 => ?_
      obtain ⟨x, e5, b, rfl, ws, j1, _⟩ := R0.at e2
      rw [e3] at e5
      cases e5
      rw [hp] at j1
      cases j1
    refine ⟨ba, upd O p (.dK []), Hf, s, R1, F.bind.imp (fun rk s1 F1 x H1 Hf1 R1 e1 ok1 => ?_) fun x s' q H' Hf' c d R' e' ex => q H' Hf' c d (R'.less so) e' ex⟩
    refine ⟨ba, upd O p (.dK []), Hf1, s1, R1, F1.bind.imp (fun rv s2 F2 y H2 Hf2 R2 e2 ok2 => ?_) fun x s' q H' Hf' c d R' e' ex => q H' Hf' c d (R'.less so) (Same.trans e1 e') ex⟩
    obtain ⟨d, s3, Hf3, F3, e3, R3, p3⟩ := retain_ok R2 ok2 F2.bind
    cases rk with
    | dat kd =>
      simp only at F3
      split at F3
      · rename_i hk
        obtain ⟨kk, ek⟩ := Option.isSome_iff_exists.mp hk
        have hx := key_rp (K := X.K) (H := Hf1) ok1 ek
        subst hx
        refine ⟨R3.reg.out p _ upd_same, [(kk, y)], rfl, Nat.le_of_ble_eq_true rfl, ?_⟩
        obtain ⟨R4, ok⟩ := R3.letGo (kvs := [(kd, d)]) (ws' := [(kk, y)]) f2 f3 (RpK.cons ek p3 (by simp only [RpK]))
        exact F3 _ _ Hf3 R4 (Same.trans e1 (Same.trans e2 e3)) ok
      · exact F3.elim
    | fresh ds => exact F3.elim
    | slot i => exact F3.elim
    | bag => exact F3.elim
    | ob n => exact F3.elim
    | freshK kvs => exact F3.elim
end
/-! ### a dict of the module, text keys, text values -/
/-- what the module's dict x holds -/
structure TabK (K : PySem.W.Frag) (w : World) (mg : Str → Option Value) (x : Str) (tab : List (Str × Str)) : Prop where
  at_ : ∃ d es n, mg x = some (.ref d) ∧ KDict K w d es n ∧ ∀ p ∈ tab, ∃ t, PySem.W.nsIn K d p.1 = some (some (.str p.2 t))
def mTab (tab : List (Str × Str)) (m : M Rv) : M Rv := M.bind m fun r => match r with
  | .dat (.str z) => M.lift ((tab.find? fun p => decide (p.1 = z)).map fun p => .dat (.str p.2))
  | _ => M.stuck
section
variable {X : Cx} {E : WX} {pos : Pos}
theorem ev_tab {x : Str} {p : Pos} {i : Expr} {m : M Rv} {tab : List (Str × Str)} (T : TabK X.K X.w X.mg x tab) (hg : Gl X x) (hi : EV X E i m) (hs : PlainIx i) (hdb : (x == ("__debug__" : Str)) = false := by decide) :
    EV X E (.Subscript (.Name x p) i pos) (mTab tab m) := by
  obtain ⟨d, es, n, hm, D, hv⟩ := T.at_
  refine PE.conv (pe_ix ix_kdict (pe_glob (v := .ref d) hg hm rfl hdb) hi hs) fun σ H Q q => ?_
  show tM X.K X.mg E m σ H _
  exact tM.bind q fun ba O Hf s r v H1 R ok F => by
    cases r with
    | dat k =>
      cases k with
      | str z =>
        obtain ⟨dd, ed, F2⟩ := Fits.lift F
        obtain ⟨pr, ep, rfl⟩ := Option.map_eq_some_iff.mp ed
        have hz : pr.1 = z := by simpa using List.find?_some ep
        obtain ⟨t, ht⟩ := hv pr (List.mem_of_find?_eq_some ep)
        have ok' : Rp X.K Hf (.str z) v := ok
        refine ⟨d, z, .str pr.2, rfl, rp_str ok', ⟨es, n, _, D.at_, D.lit, by rw [← hz]; exact ht, ⟨t, rfl⟩⟩, ?_⟩
        exact F2 _ H1 Hf R (Same.refl _) (show Rp X.K Hf (.str pr.2) (.str pr.2) from str_rp (K := X.K) (Hf := Hf))
      | _ => exact F.elim
    | _ => exact F.elim
end
end Pu
/-! Pu39: x += i for whole numbers. -/
namespace Pu
open PySem PySem.Spec PyProof.Rows L2
def dAddI (a b : D) : Option Rs := match a, b with
  | .int i, .int j => some (.dat (.int (i + j)))
  | _, _ => none
theorem op2_addI {K : PySem.W.Frag} : Op2 K (rI0 fun i j => .int (i + j)) dAddI := by
  intro Hf H d1 d2 x y res Q e b1 b2 er q
  unfold dAddI at er
  split at er
  · cases er
    obtain rfl := brp_int b1
    obtain rfl := brp_int b2
    exact ⟨_, _, rfl, rfl, q _ _ (.old (by simp only [Rp]))⟩
  · cases er
end Pu
namespace Pu
open PySem PySem.Spec PyProof.Rows L2
abbrev prg : Program := PySem.Challenge.pw_heldterms_k03_places_and_what_comes_next
def top (i : Nat) : Stmt := prg.main.body.getD i (.Pass ⟨0, 0, 0, 0⟩)
def clsIn (st : Stmt) (j : Nat) : Stmt := match st with
  | .ClassDef (body := b) .. => b.getD j (.Pass ⟨0, 0, 0, 0⟩)
  | _ => .Pass ⟨0, 0, 0, 0⟩
/-- the scope of the outer comprehension in sum([..]) -/
def inSc (st : Stmt) : Scope := match defBody st with
  | [.Return (some (.Call _ [.ListComp _ _ sc _] _ _)) _] => sc
  | _ => defScope st
abbrev s_law_bag : Stmt := top 20
abbrev s_law_take : Stmt := top 21
abbrev s_law_some : Stmt := top 22
abbrev s_law_body : Stmt := top 25
abbrev s_law_maybe_body : Stmt := top 26
abbrev s_law_program : Stmt := top 24
abbrev s_law_bodies : Stmt := top 27
abbrev s_law_size : Stmt := top 28
abbrev s_law_laid : Stmt := top 29
abbrev s_law_places : Stmt := top 30
abbrev s_law_alike : Stmt := top 23
abbrev s_bodies_of : Stmt := top 8
abbrev s_nodes_of : Stmt := top 10
abbrev s_Layout_inner : Stmt := clsIn (top 12) 1
abbrev s_Layout_init : Stmt := clsIn (top 12) 0
abbrev s_asked : Stmt := top 17
abbrev s_is_number : Stmt := top 6
abbrev s_is_index : Stmt := top 7
abbrev s_next_steps : Stmt := top 18
abbrev s_end_place : Stmt := top 14
abbrev s_is_place : Stmt := top 16
abbrev s_first_place : Stmt := top 13
abbrev s_places : Stmt := top 15
abbrev s_law_heard : Stmt := top 32
abbrev s_law_next : Stmt := top 31
abbrev s_law : Stmt := top 33
def tab_SHAPES : List (Str × Str) := [("put", "nn"), ("make", "nnt"), ("any", "n"), ("if", "nnbb"), ("while", "wnnb"), ("choose", "bb"), ("loop", "b"), ("claim", "wnn"), ("never", ""), ("call", "ntt")]
theorem le_sz (n : Nat) (h : n ≤ 100) : n ≤ sizeLine := by rw [sizeLine_eq]; omega
structure Md (w : World) (K : PySem.W.Frag) (mg : Str → Option Value) where
  f_law_bag : Addr
  fd_law_bag : FuncData
  U_law_bag : Fun K "_law_bag" "_law_bag" s_law_bag f_law_bag fd_law_bag
  g_law_bag : mg "_law_bag" = some (.ref f_law_bag)
  k_law_bag : PySem.W.keepIn K (.ref f_law_bag) = true
  b_law_bag : Binds K fd_law_bag ["script"] []
  f_law_take : Addr
  fd_law_take : FuncData
  U_law_take : Fun K "_law_take" "_law_take" s_law_take f_law_take fd_law_take
  g_law_take : mg "_law_take" = some (.ref f_law_take)
  k_law_take : PySem.W.keepIn K (.ref f_law_take) = true
  b_law_take : Binds K fd_law_take ["bag", "many"] []
  f_law_some : Addr
  fd_law_some : FuncData
  U_law_some : Fun K "_law_some" "_law_some" s_law_some f_law_some fd_law_some
  g_law_some : mg "_law_some" = some (.ref f_law_some)
  k_law_some : PySem.W.keepIn K (.ref f_law_some) = true
  b_law_some : Binds K fd_law_some ["bag", "things"] []
  f_law_body : Addr
  fd_law_body : FuncData
  U_law_body : Fun K "_law_body" "_law_body" s_law_body f_law_body fd_law_body
  g_law_body : mg "_law_body" = some (.ref f_law_body)
  k_law_body : PySem.W.keepIn K (.ref f_law_body) = true
  b_law_body : Binds K fd_law_body ["bag", "kit", "deep", "size"] []
  f_law_maybe_body : Addr
  fd_law_maybe_body : FuncData
  U_law_maybe_body : Fun K "_law_maybe_body" "_law_maybe_body" s_law_maybe_body f_law_maybe_body fd_law_maybe_body
  g_law_maybe_body : mg "_law_maybe_body" = some (.ref f_law_maybe_body)
  k_law_maybe_body : PySem.W.keepIn K (.ref f_law_maybe_body) = true
  b_law_maybe_body : Binds K fd_law_maybe_body ["bag", "kit", "deep"] []
  f_law_program : Addr
  fd_law_program : FuncData
  U_law_program : Fun K "_law_program" "_law_program" s_law_program f_law_program fd_law_program
  g_law_program : mg "_law_program" = some (.ref f_law_program)
  k_law_program : PySem.W.keepIn K (.ref f_law_program) = true
  b_law_program : Binds K fd_law_program ["bag", "size"] []
  f_law_bodies : Addr
  fd_law_bodies : FuncData
  U_law_bodies : Fun K "_law_bodies" "_law_bodies" s_law_bodies f_law_bodies fd_law_bodies
  g_law_bodies : mg "_law_bodies" = some (.ref f_law_bodies)
  k_law_bodies : PySem.W.keepIn K (.ref f_law_bodies) = true
  b_law_bodies : Binds K fd_law_bodies ["statement"] []
  f_law_size : Addr
  fd_law_size : FuncData
  U_law_size : Fun K "_law_size" "_law_size" s_law_size f_law_size fd_law_size
  g_law_size : mg "_law_size" = some (.ref f_law_size)
  k_law_size : PySem.W.keepIn K (.ref f_law_size) = true
  b_law_size : Binds K fd_law_size ["body"] []
  f_law_laid : Addr
  fd_law_laid : FuncData
  U_law_laid : Fun K "_law_laid" "_law_laid" s_law_laid f_law_laid fd_law_laid
  g_law_laid : mg "_law_laid" = some (.ref f_law_laid)
  k_law_laid : PySem.W.keepIn K (.ref f_law_laid) = true
  b_law_laid : Binds K fd_law_laid ["body", "first", "behind"] []
  f_law_places : Addr
  fd_law_places : FuncData
  U_law_places : Fun K "_law_places" "_law_places" s_law_places f_law_places fd_law_places
  g_law_places : mg "_law_places" = some (.ref f_law_places)
  k_law_places : PySem.W.keepIn K (.ref f_law_places) = true
  b_law_places : Binds K fd_law_places ["program"] []
  f_law_alike : Addr
  fd_law_alike : FuncData
  U_law_alike : Fun K "_law_alike" "_law_alike" s_law_alike f_law_alike fd_law_alike
  g_law_alike : mg "_law_alike" = some (.ref f_law_alike)
  k_law_alike : PySem.W.keepIn K (.ref f_law_alike) = true
  b_law_alike : Binds K fd_law_alike ["found", "due"] []
  f_bodies_of : Addr
  fd_bodies_of : FuncData
  U_bodies_of : Fun K "bodies_of" "bodies_of" s_bodies_of f_bodies_of fd_bodies_of
  g_bodies_of : mg "bodies_of" = some (.ref f_bodies_of)
  k_bodies_of : PySem.W.keepIn K (.ref f_bodies_of) = true
  b_bodies_of : Binds K fd_bodies_of ["statement"] []
  f_nodes_of : Addr
  fd_nodes_of : FuncData
  U_nodes_of : Fun K "nodes_of" "nodes_of" s_nodes_of f_nodes_of fd_nodes_of
  g_nodes_of : mg "nodes_of" = some (.ref f_nodes_of)
  k_nodes_of : PySem.W.keepIn K (.ref f_nodes_of) = true
  b_nodes_of : Binds K fd_nodes_of ["body"] []
  f_Layout_inner : Addr
  fd_Layout_inner : FuncData
  U_Layout_inner : Fun K "inner" "Layout.inner" s_Layout_inner f_Layout_inner fd_Layout_inner
  m_Layout_inner : L2.Meth K (He.ga K "Layout") "inner" f_Layout_inner
  b_Layout_inner : Binds K fd_Layout_inner ["self", "statement", "number"] []
  f_Layout_init : Addr
  fd_Layout_init : FuncData
  U_Layout_init : Fun K "__init__" "Layout.__init__" s_Layout_init f_Layout_init fd_Layout_init
  M_Layout : L2.Mk K (He.ga K "Layout") f_Layout_init
  b_Layout_init : Binds K fd_Layout_init ["self", "program"] []
  f_asked : Addr
  fd_asked : FuncData
  U_asked : Fun K "asked" "asked" s_asked f_asked fd_asked
  g_asked : mg "asked" = some (.ref f_asked)
  k_asked : PySem.W.keepIn K (.ref f_asked) = true
  b_asked : Binds K fd_asked ["statement", "same", "unlike"] []
  f_is_number : Addr
  fd_is_number : FuncData
  U_is_number : Fun K "is_number" "is_number" s_is_number f_is_number fd_is_number
  g_is_number : mg "is_number" = some (.ref f_is_number)
  k_is_number : PySem.W.keepIn K (.ref f_is_number) = true
  b_is_number : Binds K fd_is_number ["thing"] []
  f_is_index : Addr
  fd_is_index : FuncData
  U_is_index : Fun K "is_index" "is_index" s_is_index f_is_index fd_is_index
  g_is_index : mg "is_index" = some (.ref f_is_index)
  k_is_index : PySem.W.keepIn K (.ref f_is_index) = true
  b_is_index : Binds K fd_is_index ["thing"] []
  f_next_steps : Addr
  fd_next_steps : FuncData
  U_next_steps : Fun K "next_steps" "next_steps" s_next_steps f_next_steps fd_next_steps
  g_next_steps : mg "next_steps" = some (.ref f_next_steps)
  k_next_steps : PySem.W.keepIn K (.ref f_next_steps) = true
  b_next_steps : Binds K fd_next_steps ["program", "place"] []
  f_end_place : Addr
  fd_end_place : FuncData
  U_end_place : Fun K "end_place" "end_place" s_end_place f_end_place fd_end_place
  g_end_place : mg "end_place" = some (.ref f_end_place)
  k_end_place : PySem.W.keepIn K (.ref f_end_place) = true
  b_end_place : Binds K fd_end_place ["program"] []
  f_is_place : Addr
  fd_is_place : FuncData
  U_is_place : Fun K "is_place" "is_place" s_is_place f_is_place fd_is_place
  g_is_place : mg "is_place" = some (.ref f_is_place)
  k_is_place : PySem.W.keepIn K (.ref f_is_place) = true
  b_is_place : Binds K fd_is_place ["program", "thing"] []
  f_first_place : Addr
  fd_first_place : FuncData
  U_first_place : Fun K "first_place" "first_place" s_first_place f_first_place fd_first_place
  g_first_place : mg "first_place" = some (.ref f_first_place)
  k_first_place : PySem.W.keepIn K (.ref f_first_place) = true
  b_first_place : Binds K fd_first_place ["program"] []
  f_places : Addr
  fd_places : FuncData
  U_places : Fun K "places" "places" s_places f_places fd_places
  g_places : mg "places" = some (.ref f_places)
  k_places : PySem.W.keepIn K (.ref f_places) = true
  b_places : Binds K fd_places ["program"] []
  f_law_heard : Addr
  fd_law_heard : FuncData
  U_law_heard : Fun K "_law_heard" "_law_heard" s_law_heard f_law_heard fd_law_heard
  g_law_heard : mg "_law_heard" = some (.ref f_law_heard)
  k_law_heard : PySem.W.keepIn K (.ref f_law_heard) = true
  b_law_heard : Binds K fd_law_heard ["way", "program", "thing"] []
  f_law_next : Addr
  fd_law_next : FuncData
  U_law_next : Fun K "_law_next" "_law_next" s_law_next f_law_next fd_law_next
  g_law_next : mg "_law_next" = some (.ref f_law_next)
  k_law_next : PySem.W.keepIn K (.ref f_law_next) = true
  b_law_next : Binds K fd_law_next ["laid", "place"] []
  f_law : Addr
  fd_law : FuncData
  U_law : Fun K "law" "law" s_law f_law fd_law
  g_law : mg "law" = some (.ref f_law)
  k_law : PySem.W.keepIn K (.ref f_law) = true
  b_law : Binds K fd_law ["script"] []
  n_sum : mg "sum" = none
  n_dict : mg "dict" = none
  n_enumerate : mg "enumerate" = none
  n_all : mg "all" = none
  n_len : mg "len" = none
  n_int : mg "int" = none
  n_abs : mg "abs" = none
  n_tuple : mg "tuple" = none
  n_list : mg "list" = none
  n_sorted : mg "sorted" = none
  n_repr : mg "repr" = none
  n_max : mg "max" = none
  n_isinstance : mg "isinstance" = none
  n_range : mg "range" = none
  n_zip : mg "zip" = none
  n_set : mg "set" = none
  n_bool : mg "bool" = none
  n_super : mg "super" = none
  L_Layout : Cls K (He.ga K "Layout")
  g_Layout : mg "Layout" = some (.ref (He.ga K "Layout"))
  z_Layout_statements : NoAttr K (He.ga K "Layout") "statements"
  z_Layout_behind : NoAttr K (He.ga K "Layout") "behind"
  z_Layout_first : NoAttr K (He.ga K "Layout") "first"
  T_SHAPES : TabK K w mg "SHAPES" tab_SHAPES
  g_Nothing : mg "Nothing" = some (.ref (He.ga K "Nothing"))
  q_Nothing : PySem.W.excIn K (He.ga K "Nothing") He.veBase "ValueError.__new__" = true
  kq_Nothing : PySem.W.keepIn K (.ref (He.ga K "Nothing")) = true
  s_Nothing : PySem.W.subIn K (.ref (He.ga K "Nothing")) (.type "BaseException") = some true
  ty_Nothing : PySem.W.typeIn K (.ref (He.ga K "Nothing")) = some (.type "type")
  e_Nothing : PySem.W.exmOne K (.ref (He.ga K "Nothing")) (.ref (He.ga K "Nothing")) = some true
def N_law_bag : List Str := ["script", "cell"]
theorem sc_law_bag : FnScope N_law_bag ["script"] (defScope s_law_bag) := ⟨rfl, rfl, rfl, by decide +kernel, rfl, by decide +kernel, by decide +kernel⟩
def m_law_bag : M Fl :=
  (mRet (mLst [(mC (.int 0)), (mC (.int 1234567891)), (mC (.int 0)), (mComp [1] (mSeq (mSl (mVar 0) none (some (mC (.int 63))))) (.nm 1) mYes (mUn dAbs (mVar 1)))]))
def F_law_bag : Fn := runDef 2 m_law_bag
theorem d_law_bag {w : World} {K : PySem.W.Frag} {mg : Str → Option Value} {base : Heap} (M : Md w K mg) : FnG prg w K mg base (L2.CX prg w) 1 M.f_law_bag M.fd_law_bag ["script"] (SpM K mg 1 F_law_bag) :=
  fnM (m := m_law_bag) M.U_law_bag sc_law_bag (fun cdv A outer s H E hgd hr => have Sc := sc_law_bag; (ess_one (es_ret (ev_lst (ea_cons ev_int (ea_cons ev_int (ea_cons ev_int (ea_cons (ev_lc (own := [("cell", 1)]) rfl Sc.nd (ei_seq (ev_slice (ev_var (pv 0)) eo_none (eo_some ev_int))) (show BlkOk N_law_bag (defScope s_law_bag) _ _ from ⟨rfl, by decide +kernel, by decide +kernel, by decide +kernel, by decide +kernel⟩) (fun _ _ _ _ _ => (eg_name Sc.nd rfl (Or.inl rfl))) (fun _ _ _ _ _ => pts_none) (fun _ _ _ _ _ => (ev_b1 call_abs o1_abs rfl M.n_abs (by decide +kernel) (ev_var (pv 1))))) ea_nil)))) (le_sz 4 (by decide)))))) fun β as r _ h => h
def N_law_take : List Str := ["bag", "many", "begin", "second", "cell", "stirred", "value"]
theorem sc_law_take : FnScope N_law_take ["bag", "many"] (defScope s_law_take) := ⟨rfl, rfl, rfl, by decide +kernel, rfl, by decide +kernel, by decide +kernel⟩
def m_law_take : M Fl :=
  (mThen (mIfS (mIs (mBin cEq (mBagIx 0 0) (mC (.int 0)))) (mThen (mSet 4 (mBin dIx (mBin dAdd (mSl (mBagIx 0 3) (some (mBagIx 0 2)) none) (mLst [(mC (.int 0))])) (mC (.int 0)))) (mThen (mBagAug 0 2 (mC (.int 1))) (mThen (mIfS (mIs (mBin cGe (mVar 4) (mBin dPow (mC (.int 10)) (mC (.int 18))))) (mBagSet 0 0 (mVar 4)) mNx) (mThen (mSet 5 (mBin dAdd (mBin dAdd (mBin dMulT (mBagIx 0 1) (mC (.int 48271))) (mBin dMod (mUn dInt (mVar 4)) (mC (.int 2147483647)))) (mBin dMulT (mC (.int 7919)) (mBagIx 0 2)))) (mBagSet 0 1 (mBin dMod (mUn dInt (mVar 5)) (mC (.int 2147483647)))))))) mNx) (mThen (mIfS (mIs (mBin cGt (mBagIx 0 0) (mC (.int 0)))) (mThen (mSet 6 (mBin dMod (mUn dInt (mBagIx 0 0)) (mVar 1))) (mThen (mBagSet 0 0 (mBin dFdivW (mUn dInt (mBagIx 0 0)) (mVar 1))) (mRet (mVar 6)))) mNx) (mThen (mSet 2 (mBin dMod (mUn dInt (mBin dMulT (mBin dAdd (mBagIx 0 1) (mC (.int 1))) (mC (.int 39373)))) (mC (.int 1000000007)))) (mThen (mSet 3 (mBin dMod (mUn dInt (mBin dMulT (mBin dMod (mUn dInt (mBin dMulT (mVar 2) (mVar 2))) (mC (.int 998244353))) (mC (.int 30011)))) (mC (.int 998244353)))) (mRet (mBin dMod (mUn dInt (mBin dFdivW (mVar 3) (mC (.int 7)))) (mVar 1)))))))
def F_law_take : Fn := runDef 7 m_law_take
theorem d_law_take {w : World} {K : PySem.W.Frag} {mg : Str → Option Value} {base : Heap} (M : Md w K mg) : FnG prg w K mg base (L2.CX prg w) 1 M.f_law_take M.fd_law_take ["bag", "many"] (SpM K mg 2 F_law_take) :=
  fnM (m := m_law_take) M.U_law_take sc_law_take (fun cdv A outer s H E hgd hr => have Sc := sc_law_take; (ess_cons (es_if (et_cmp (op_eqD (Room.units hr)) op2_D (ev_bagIx (pv 0) fun _ _ => rfl) ev_int (nomark _)) (ess_cons (es_set Sc.nd rfl (Or.inl rfl) (ev_ix ix_seq op2_ix (ev_bin op_addD op2_add (ev_slice (ev_bagIx (pv 0) fun _ _ => rfl) (eo_some (ev_bagIx (pv 0) fun _ _ => rfl)) eo_none) (ev_lst (ea_cons ev_int ea_nil) (le_sz 1 (by decide)))) ev_int fun _ _ => rfl)) (ess_cons (es_bagAug (pv 0) ev_int) (ess_cons (es_if (et_cmp (op_geD (Room.units hr)) op2_D (ev_var (pv 4)) (ev_bin op_pow op2_pow ev_int ev_int) (nomark _)) (ess_one (es_bagSet (pv 0) (ev_var (pv 4)))) ess_nil) (ess_cons (es_set Sc.nd rfl (Or.inl rfl) (ev_bin op_addD op2_add (ev_bin op_addD op2_add (ev_bin op_mulT op2_mulT (ev_bagIx (pv 0) fun _ _ => rfl) ev_int) (ev_bin op_mod op2_mod (ev_t1 call_int1 o1_int rfl M.n_int (by decide +kernel) (ev_var (pv 4))) ev_int)) (ev_bin op_mulT op2_mulT ev_int (ev_bagIx (pv 0) fun _ _ => rfl)))) (ess_one (es_bagSet (pv 0) (ev_bin op_mod op2_mod (ev_t1 call_int1 o1_int rfl M.n_int (by decide +kernel) (ev_var (pv 5))) ev_int))))))) ess_nil) (ess_cons (es_if (et_cmp (op_gtD (Room.units hr)) op2_D (ev_bagIx (pv 0) fun _ _ => rfl) ev_int (nomark _)) (ess_cons (es_set Sc.nd rfl (Or.inl rfl) (ev_bin op_mod op2_mod (ev_t1 call_int1 o1_int rfl M.n_int (by decide +kernel) (ev_bagIx (pv 0) fun _ _ => rfl)) (ev_var (pv 1)))) (ess_cons (es_bagSet (pv 0) (ev_bin op_fdivW op2_fdivW (ev_t1 call_int1 o1_int rfl M.n_int (by decide +kernel) (ev_bagIx (pv 0) fun _ _ => rfl)) (ev_var (pv 1)))) (ess_one (es_ret (ev_var (pv 6)))))) ess_nil) (ess_cons (es_set Sc.nd rfl (Or.inl rfl) (ev_bin op_mod op2_mod (ev_t1 call_int1 o1_int rfl M.n_int (by decide +kernel) (ev_bin op_mulT op2_mulT (ev_bin op_addD op2_add (ev_bagIx (pv 0) fun _ _ => rfl) ev_int) ev_int)) ev_int)) (ess_cons (es_set Sc.nd rfl (Or.inl rfl) (ev_bin op_mod op2_mod (ev_t1 call_int1 o1_int rfl M.n_int (by decide +kernel) (ev_bin op_mulT op2_mulT (ev_bin op_mod op2_mod (ev_t1 call_int1 o1_int rfl M.n_int (by decide +kernel) (ev_bin op_mulT op2_mulT (ev_var (pv 2)) (ev_var (pv 2)))) ev_int) ev_int)) ev_int)) (ess_one (es_ret (ev_bin op_mod op2_mod (ev_t1 call_int1 o1_int rfl M.n_int (by decide +kernel) (ev_bin op_fdivW op2_fdivW (ev_var (pv 3)) ev_int)) (ev_var (pv 1)))))))))) fun β as r _ h => h
def N_law_some : List Str := ["bag", "things"]
theorem sc_law_some : FnScope N_law_some ["bag", "things"] (defScope s_law_some) := ⟨rfl, rfl, rfl, by decide +kernel, rfl, by decide +kernel, by decide +kernel⟩
def m_law_some : M Fl :=
  (mRet (mBin dIx (mVar 1) (mCall F_law_take [(mVar 0), (mUn dLenD (mVar 1))])))
def F_law_some : Fn := runDef 2 m_law_some
theorem d_law_some {w : World} {K : PySem.W.Frag} {mg : Str → Option Value} {base : Heap} (M : Md w K mg) : FnG prg w K mg base (L2.CX prg w) 2 M.f_law_some M.fd_law_some ["bag", "things"] (SpM K mg 2 F_law_some) :=
  fnM (m := m_law_some) M.U_law_some sc_law_some (fun cdv A outer s H E hgd hr => have Sc := sc_law_some; (ess_one (es_ret (ev_ix ix_seq op2_ix (ev_var (pv 1)) (ev_call (k := 1) ((d_law_take M).mono (by decide)) hgd (hr.mono (by decide)) (takes_of rfl rfl rfl rfl) rfl M.g_law_take M.k_law_take M.b_law_take (ea_cons (ev_var (pv 0)) (ea_cons (ev_b1 call_lenD o1_lenD rfl M.n_len boot_len (ev_var (pv 1))) ea_nil))) fun _ _ => rfl)))) fun β as r _ h => h
def N_law_body : List Str := ["bag", "kit", "deep", "size", "found", "k", "word", "x", "y", "z", "f", "parts", "how"]
theorem sc_law_body : FnScope N_law_body ["bag", "kit", "deep", "size"] (defScope s_law_body) := ⟨rfl, rfl, rfl, by decide +kernel, rfl, by decide +kernel, by decide +kernel⟩
def N_law_maybe_body : List Str := ["bag", "kit", "deep"]
theorem sc_law_maybe_body : FnScope N_law_maybe_body ["bag", "kit", "deep"] (defScope s_law_maybe_body) := ⟨rfl, rfl, rfl, by decide +kernel, rfl, by decide +kernel, by decide +kernel⟩
def m_law_body (Fa Fb : Fn) : M Fl :=
  (mThen (mSet 4 (mLst [])) (mThen (mFor (mRng1 (mBin dAdd (mC (.int 1)) (mCall F_law_take [(mVar 0), (mVar 3)]))) (.nm 5) (mThen (mSet 6 (mCall F_law_some [(mVar 0), (mLst [(mC (.str "put")), (mC (.str "make")), (mC (.str "make")), (mC (.str "make")), (mC (.str "any")), (mC (.str "if")), (mC (.str "while")), (mC (.str "choose")), (mC (.str "loop")), (mC (.str "claim")), (mC (.str "claim"))])])) (mThen (mSet 6 (mIf (mAndT (mIs (mBin cEq (mVar 2) (mC (.int 0)))) (mIs (mBin cIn (mVar 6) (mTup [(mC (.str "if")), (mC (.str "while")), (mC (.str "choose")), (mC (.str "loop"))])))) (mC (.str "make")) (mVar 6))) (mThen (mSet 6 (mIf (mIs (mBin cEq (mCall F_law_take [(mVar 0), (mC (.int 20))]) (mC (.int 0)))) (mC (.str "never")) (mVar 6))) (mThen (mPar3 7 8 9 [(mCall F_law_some [(mVar 0), (mBin dIxK (mVar 1) (mC (.str "variables")))]), (mCall F_law_some [(mVar 0), (mBin dIxK (mVar 1) (mC (.str "things")))]), (mCall F_law_some [(mVar 0), (mBin dIxK (mVar 1) (mC (.str "things")))])]) (mIfS (mIs (mBin cEq (mVar 6) (mC (.str "put")))) (mExpr (mAppend 4 (mTup [(mC (.str "put")), (mVar 7), (mVar 8)]))) (mIfS (mIs (mBin cEq (mVar 6) (mC (.str "any")))) (mExpr (mAppend 4 (mTup [(mC (.str "any")), (mVar 7)]))) (mIfS (mIs (mBin cEq (mVar 6) (mC (.str "make")))) (mThen (mAsg (.tup [(.nm 10), (.nm 11), (.nm 12)]) (mCall F_law_some [(mVar 0), (mBin dIxK (mVar 1) (mC (.str "functions")))])) (mExpr (mAppend 4 (mTup [(mC (.str "make")), (mVar 7), (mVar 10), (mSl (mTup [(mVar 8), (mVar 9)]) none (some (mVar 11)))])))) (mIfS (mIs (mBin cEq (mVar 6) (mC (.str "never")))) (mExpr (mAppend 4 (mTup [(mC (.str "never"))]))) (mIfS (mIs (mBin cEq (mVar 6) (mC (.str "claim")))) (mExpr (mAppend 4 (mTup [(mC (.str "claim")), (mCall F_law_some [(mVar 0), (mLst [(mC (.str "same")), (mC (.str "unlike"))])]), (mVar 8), (mVar 9)]))) (mIfS (mIs (mBin cEq (mVar 6) (mC (.str "if")))) (mExpr (mAppend 4 (mTup [(mC (.str "if")), (mVar 8), (mVar 9), (mCall Fa [(mVar 0), (mVar 1), (mBin dSub (mVar 2) (mC (.int 1))), (mC (.int 2))]), (mCall Fb [(mVar 0), (mVar 1), (mBin dSub (mVar 2) (mC (.int 1)))])]))) (mIfS (mIs (mBin cEq (mVar 6) (mC (.str "while")))) (mExpr (mAppend 4 (mTup [(mC (.str "while")), (mCall F_law_some [(mVar 0), (mLst [(mC (.str "same")), (mC (.str "unlike"))])]), (mVar 8), (mVar 9), (mCall Fa [(mVar 0), (mVar 1), (mBin dSub (mVar 2) (mC (.int 1))), (mC (.int 2))])]))) (mIfS (mIs (mBin cEq (mVar 6) (mC (.str "choose")))) (mExpr (mAppend 4 (mTup [(mC (.str "choose")), (mCall Fa [(mVar 0), (mVar 1), (mBin dSub (mVar 2) (mC (.int 1))), (mC (.int 2))]), (mCall Fb [(mVar 0), (mVar 1), (mBin dSub (mVar 2) (mC (.int 1)))])]))) (mExpr (mAppend 4 (mTup [(mC (.str "loop")), (mCall Fa [(mVar 0), (mVar 1), (mBin dSub (mVar 2) (mC (.int 1))), (mC (.int 2))])])))))))))))))))) (mRet (mUn dTuple (mVar 4)))))
def m_law_maybe_body (Fa Fb : Fn) : M Fl :=
  (mRet (mIf (mIs (mBin cEq (mCall F_law_take [(mVar 0), (mC (.int 2))]) (mC (.int 0)))) (mCall Fa [(mVar 0), (mVar 1), (mVar 2), (mC (.int 2))]) (mTup [])))
def FF : Nat → Fn × Fn
  | 0 => (fun _ _ => none, fun _ _ => none)
  | n + 1 => (runDef 13 (m_law_body (FF n).1 (FF n).2), runDef 3 (m_law_maybe_body (FF n).1 (FF n).2))
theorem dd {w : World} {K : PySem.W.Frag} {mg : Str → Option Value} {base : Heap} (M : Md w K mg) : ∀ n : Nat, FnG prg w K mg base (L2.CX prg w) (2 + n) M.f_law_body M.fd_law_body ["bag", "kit", "deep", "size"] (SpM K mg 4 (FF n).1) ∧ FnG prg w K mg base (L2.CX prg w) (2 + n) M.f_law_maybe_body M.fd_law_maybe_body ["bag", "kit", "deep"] (SpM K mg 3 (FF n).2)
  | 0 => ⟨fnG_none, fnG_none⟩
  | n + 1 => by
    have ih := dd (w := w) (base := base) M n
    exact ⟨fnM (k := 2 + n) (m := m_law_body (FF n).1 (FF n).2) M.U_law_body sc_law_body (fun cdv A outer s H E hgd hr => have Sc := sc_law_body; (ess_cons (es_set Sc.nd rfl (Or.inl rfl) (ev_lst ea_nil (le_sz 0 (by decide)))) (ess_cons (es_for (passes_of rfl) rfl (ei_rng1 rfl M.n_range (ev_bin op_addD op2_add ev_int (ev_call (k := 2 + n) ((d_law_take M).mono (by omega)) hgd (hr.mono (by omega)) (takes_of rfl rfl rfl rfl) rfl M.g_law_take M.k_law_take M.b_law_take (ea_cons (ev_var (pv 0)) (ea_cons (ev_var (pv 3)) ea_nil))))) (eg_name Sc.nd rfl (Or.inl rfl)) (ess_cons (es_set Sc.nd rfl (Or.inl rfl) (ev_call (k := 2 + n) ((d_law_some M).mono (by omega)) hgd (hr.mono (by omega)) (takes_of rfl rfl rfl rfl) rfl M.g_law_some M.k_law_some M.b_law_some (ea_cons (ev_var (pv 0)) (ea_cons (ev_lst (ea_cons ev_str (ea_cons ev_str (ea_cons ev_str (ea_cons ev_str (ea_cons ev_str (ea_cons ev_str (ea_cons ev_str (ea_cons ev_str (ea_cons ev_str (ea_cons ev_str (ea_cons ev_str ea_nil))))))))))) (le_sz 11 (by decide))) ea_nil)))) (ess_cons (es_set Sc.nd rfl (Or.inl rfl) (ev_if (et_w (ew_and (et_cmp (op_eqD (Room.units hr)) op2_D (ev_var (pv 2)) ev_int (nomark _)) (ew_and1 (et_cmp (op_inD (Room.units hr)) op2_D (ev_var (pv 6)) (ev_tup (ea_cons ev_str (ea_cons ev_str (ea_cons ev_str (ea_cons ev_str ea_nil)))) (le_sz 4 (by decide))) rfl)))) ev_str (ev_var (pv 6)))) (ess_cons (es_set Sc.nd rfl (Or.inl rfl) (ev_if (et_cmp (op_eqD (Room.units hr)) op2_D (ev_call (k := 2 + n) ((d_law_take M).mono (by omega)) hgd (hr.mono (by omega)) (takes_of rfl rfl rfl rfl) rfl M.g_law_take M.k_law_take M.b_law_take (ea_cons (ev_var (pv 0)) (ea_cons ev_int ea_nil))) ev_int (nomark _)) ev_str (ev_var (pv 6)))) (ess_cons (es_par3 rfl Sc.nd rfl rfl rfl (by decide) (by decide) (by decide) rfl rfl rfl (ea_cons (ev_call (k := 2 + n) ((d_law_some M).mono (by omega)) hgd (hr.mono (by omega)) (takes_of rfl rfl rfl rfl) rfl M.g_law_some M.k_law_some M.b_law_some (ea_cons (ev_var (pv 0)) (ea_cons (ev_ixK (Room.units hr) (ev_var (pv 1)) ev_str fun _ _ => rfl) ea_nil))) (ea_cons (ev_call (k := 2 + n) ((d_law_some M).mono (by omega)) hgd (hr.mono (by omega)) (takes_of rfl rfl rfl rfl) rfl M.g_law_some M.k_law_some M.b_law_some (ea_cons (ev_var (pv 0)) (ea_cons (ev_ixK (Room.units hr) (ev_var (pv 1)) ev_str fun _ _ => rfl) ea_nil))) (ea_cons (ev_call (k := 2 + n) ((d_law_some M).mono (by omega)) hgd (hr.mono (by omega)) (takes_of rfl rfl rfl rfl) rfl M.g_law_some M.k_law_some M.b_law_some (ea_cons (ev_var (pv 0)) (ea_cons (ev_ixK (Room.units hr) (ev_var (pv 1)) ev_str fun _ _ => rfl) ea_nil))) ea_nil))) rfl) (ess_one (es_if (et_cmp (op_eqD (Room.units hr)) op2_D (ev_var (pv 6)) ev_str (nomark _)) (ess_one (es_expr (ev_append (pe_bm PySem.F.plainAttrs_list PySem.F.slot_list_append PySem.F.type_list_append mt_append (pv 4) (pa_cons (ev_tup (ea_cons ev_str (ea_cons (ev_var (pv 7)) (ea_cons (ev_var (pv 8)) ea_nil))) (le_sz 3 (by decide))) pa_nil))))) (ess_one (es_if (et_cmp (op_eqD (Room.units hr)) op2_D (ev_var (pv 6)) ev_str (nomark _)) (ess_one (es_expr (ev_append (pe_bm PySem.F.plainAttrs_list PySem.F.slot_list_append PySem.F.type_list_append mt_append (pv 4) (pa_cons (ev_tup (ea_cons ev_str (ea_cons (ev_var (pv 7)) ea_nil)) (le_sz 2 (by decide))) pa_nil))))) (ess_one (es_if (et_cmp (op_eqD (Room.units hr)) op2_D (ev_var (pv 6)) ev_str (nomark _)) (ess_cons (es_asg (ev_call (k := 2 + n) ((d_law_some M).mono (by omega)) hgd (hr.mono (by omega)) (takes_of rfl rfl rfl rfl) rfl M.g_law_some M.k_law_some M.b_law_some (ea_cons (ev_var (pv 0)) (ea_cons (ev_ixK (Room.units hr) (ev_var (pv 1)) ev_str fun _ _ => rfl) ea_nil))) (eg_tup rfl (egs_cons (eg_name Sc.nd rfl (Or.inl rfl)) (egs_cons (eg_name Sc.nd rfl (Or.inl rfl)) (egs_cons (eg_name Sc.nd rfl (Or.inl rfl)) egs_nil))))) (ess_one (es_expr (ev_append (pe_bm PySem.F.plainAttrs_list PySem.F.slot_list_append PySem.F.type_list_append mt_append (pv 4) (pa_cons (ev_tup (ea_cons ev_str (ea_cons (ev_var (pv 7)) (ea_cons (ev_var (pv 10)) (ea_cons (ev_slice (ev_tup (ea_cons (ev_var (pv 8)) (ea_cons (ev_var (pv 9)) ea_nil)) (le_sz 2 (by decide))) eo_none (eo_some (ev_var (pv 11)))) ea_nil)))) (le_sz 4 (by decide))) pa_nil)))))) (ess_one (es_if (et_cmp (op_eqD (Room.units hr)) op2_D (ev_var (pv 6)) ev_str (nomark _)) (ess_one (es_expr (ev_append (pe_bm PySem.F.plainAttrs_list PySem.F.slot_list_append PySem.F.type_list_append mt_append (pv 4) (pa_cons (ev_tup (ea_cons ev_str ea_nil) (le_sz 1 (by decide))) pa_nil))))) (ess_one (es_if (et_cmp (op_eqD (Room.units hr)) op2_D (ev_var (pv 6)) ev_str (nomark _)) (ess_one (es_expr (ev_append (pe_bm PySem.F.plainAttrs_list PySem.F.slot_list_append PySem.F.type_list_append mt_append (pv 4) (pa_cons (ev_tup (ea_cons ev_str (ea_cons (ev_call (k := 2 + n) ((d_law_some M).mono (by omega)) hgd (hr.mono (by omega)) (takes_of rfl rfl rfl rfl) rfl M.g_law_some M.k_law_some M.b_law_some (ea_cons (ev_var (pv 0)) (ea_cons (ev_lst (ea_cons ev_str (ea_cons ev_str ea_nil)) (le_sz 2 (by decide))) ea_nil))) (ea_cons (ev_var (pv 8)) (ea_cons (ev_var (pv 9)) ea_nil)))) (le_sz 4 (by decide))) pa_nil))))) (ess_one (es_if (et_cmp (op_eqD (Room.units hr)) op2_D (ev_var (pv 6)) ev_str (nomark _)) (ess_one (es_expr (ev_append (pe_bm PySem.F.plainAttrs_list PySem.F.slot_list_append PySem.F.type_list_append mt_append (pv 4) (pa_cons (ev_tup (ea_cons ev_str (ea_cons (ev_var (pv 8)) (ea_cons (ev_var (pv 9)) (ea_cons (ev_call (k := 2 + n) ih.1 hgd (hr.mono (by omega)) (takes_of rfl rfl rfl rfl) rfl M.g_law_body M.k_law_body M.b_law_body (ea_cons (ev_var (pv 0)) (ea_cons (ev_var (pv 1)) (ea_cons (ev_bin op_sub op2_sub (ev_var (pv 2)) ev_int) (ea_cons ev_int ea_nil))))) (ea_cons (ev_call (k := 2 + n) ih.2 hgd (hr.mono (by omega)) (takes_of rfl rfl rfl rfl) rfl M.g_law_maybe_body M.k_law_maybe_body M.b_law_maybe_body (ea_cons (ev_var (pv 0)) (ea_cons (ev_var (pv 1)) (ea_cons (ev_bin op_sub op2_sub (ev_var (pv 2)) ev_int) ea_nil)))) ea_nil))))) (le_sz 5 (by decide))) pa_nil))))) (ess_one (es_if (et_cmp (op_eqD (Room.units hr)) op2_D (ev_var (pv 6)) ev_str (nomark _)) (ess_one (es_expr (ev_append (pe_bm PySem.F.plainAttrs_list PySem.F.slot_list_append PySem.F.type_list_append mt_append (pv 4) (pa_cons (ev_tup (ea_cons ev_str (ea_cons (ev_call (k := 2 + n) ((d_law_some M).mono (by omega)) hgd (hr.mono (by omega)) (takes_of rfl rfl rfl rfl) rfl M.g_law_some M.k_law_some M.b_law_some (ea_cons (ev_var (pv 0)) (ea_cons (ev_lst (ea_cons ev_str (ea_cons ev_str ea_nil)) (le_sz 2 (by decide))) ea_nil))) (ea_cons (ev_var (pv 8)) (ea_cons (ev_var (pv 9)) (ea_cons (ev_call (k := 2 + n) ih.1 hgd (hr.mono (by omega)) (takes_of rfl rfl rfl rfl) rfl M.g_law_body M.k_law_body M.b_law_body (ea_cons (ev_var (pv 0)) (ea_cons (ev_var (pv 1)) (ea_cons (ev_bin op_sub op2_sub (ev_var (pv 2)) ev_int) (ea_cons ev_int ea_nil))))) ea_nil))))) (le_sz 5 (by decide))) pa_nil))))) (ess_one (es_if (et_cmp (op_eqD (Room.units hr)) op2_D (ev_var (pv 6)) ev_str (nomark _)) (ess_one (es_expr (ev_append (pe_bm PySem.F.plainAttrs_list PySem.F.slot_list_append PySem.F.type_list_append mt_append (pv 4) (pa_cons (ev_tup (ea_cons ev_str (ea_cons (ev_call (k := 2 + n) ih.1 hgd (hr.mono (by omega)) (takes_of rfl rfl rfl rfl) rfl M.g_law_body M.k_law_body M.b_law_body (ea_cons (ev_var (pv 0)) (ea_cons (ev_var (pv 1)) (ea_cons (ev_bin op_sub op2_sub (ev_var (pv 2)) ev_int) (ea_cons ev_int ea_nil))))) (ea_cons (ev_call (k := 2 + n) ih.2 hgd (hr.mono (by omega)) (takes_of rfl rfl rfl rfl) rfl M.g_law_maybe_body M.k_law_maybe_body M.b_law_maybe_body (ea_cons (ev_var (pv 0)) (ea_cons (ev_var (pv 1)) (ea_cons (ev_bin op_sub op2_sub (ev_var (pv 2)) ev_int) ea_nil)))) ea_nil))) (le_sz 3 (by decide))) pa_nil))))) (ess_one (es_expr (ev_append (pe_bm PySem.F.plainAttrs_list PySem.F.slot_list_append PySem.F.type_list_append mt_append (pv 4) (pa_cons (ev_tup (ea_cons ev_str (ea_cons (ev_call (k := 2 + n) ih.1 hgd (hr.mono (by omega)) (takes_of rfl rfl rfl rfl) rfl M.g_law_body M.k_law_body M.b_law_body (ea_cons (ev_var (pv 0)) (ea_cons (ev_var (pv 1)) (ea_cons (ev_bin op_sub op2_sub (ev_var (pv 2)) ev_int) (ea_cons ev_int ea_nil))))) ea_nil)) (le_sz 2 (by decide))) pa_nil)))))))))))))))))))))))))) (ess_one (es_ret (ev_t1 call_tuple_of o1_tuple rfl M.n_tuple (by decide +kernel) (ev_var (pv 4)))))))) fun β as r _ h => h, fnM (k := 2 + n) (m := m_law_maybe_body (FF n).1 (FF n).2) M.U_law_maybe_body sc_law_maybe_body (fun cdv A outer s H E hgd hr => have Sc := sc_law_maybe_body; (ess_one (es_ret (ev_if (et_cmp (op_eqD (Room.units hr)) op2_D (ev_call (k := 2 + n) ((d_law_take M).mono (by omega)) hgd (hr.mono (by omega)) (takes_of rfl rfl rfl rfl) rfl M.g_law_take M.k_law_take M.b_law_take (ea_cons (ev_var (pv 0)) (ea_cons ev_int ea_nil))) ev_int (nomark _)) (ev_call (k := 2 + n) ih.1 hgd (hr.mono (by omega)) (takes_of rfl rfl rfl rfl) rfl M.g_law_body M.k_law_body M.b_law_body (ea_cons (ev_var (pv 0)) (ea_cons (ev_var (pv 1)) (ea_cons (ev_var (pv 2)) (ea_cons ev_int ea_nil))))) (ev_tup ea_nil (le_sz 0 (by decide))))))) fun β as r _ h => h⟩
def F_law_body : Fn := (FF 5).1
theorem d_law_body {w : World} {K : PySem.W.Frag} {mg : Str → Option Value} {base : Heap} (M : Md w K mg) : FnG prg w K mg base (L2.CX prg w) 7 M.f_law_body M.fd_law_body ["bag", "kit", "deep", "size"] (SpM K mg 4 F_law_body) := (dd M 5).1
def N_law_program : List Str := ["bag", "size", "functions", "variables", "inputs", "kit", "body", "name"]
theorem sc_law_program : FnScope N_law_program ["bag", "size"] (defScope s_law_program) := ⟨rfl, rfl, rfl, by decide +kernel, rfl, by decide +kernel, by decide +kernel⟩
def m_law_program : M Fl :=
  (mThen (mSet 2 (mSl (mTup [(mTup [(mC (.str "f")), (mC (.int 1)), (mC (.str "told"))]), (mTup [(mC (.str "g")), (mC (.int 2)), (mC (.str "either"))]), (mTup [(mC (.str "h")), (mC (.int 2)), (mC (.str "told"))])]) none (some (mBin dAdd (mC (.int 1)) (mCall F_law_take [(mVar 0), (mC (.int 3))]))))) (mThen (mSet 3 (mSl (mTup [(mC (.str "a")), (mC (.str "b")), (mC (.str "c")), (mC (.str "d"))]) none (some (mBin dAdd (mC (.int 2)) (mCall F_law_take [(mVar 0), (mC (.int 3))]))))) (mThen (mSet 4 (mUn dTuple (mComp [7] (mSeq (mVar 3)) (.nm 7) (mIs (mBin cEq (mCall F_law_take [(mVar 0), (mC (.int 2))]) (mC (.int 0)))) (mVar 7)))) (mThen (mSet 5 (mDict [("functions", (mVar 2)), ("variables", (mVar 3)), ("things", (mBin dAdd (mUn dList (mVar 3)) (mLst [(mC (.str "nil")), (mC (.str "yes"))])))])) (mThen (mSet 6 (mCall F_law_body [(mVar 0), (mVar 5), (mC (.int 2)), (mVar 1)])) (mRet (mTup [(mVar 2), (mTup [(mC (.str "nil")), (mC (.str "yes"))]), (mVar 3), (mVar 4), (mTup []), (mVar 6)])))))))
def F_law_program : Fn := runDef 8 m_law_program
theorem d_law_program {w : World} {K : PySem.W.Frag} {mg : Str → Option Value} {base : Heap} (M : Md w K mg) : FnG prg w K mg base (L2.CX prg w) 9 M.f_law_program M.fd_law_program ["bag", "size"] (SpM K mg 2 F_law_program) :=
  fnM (m := m_law_program) M.U_law_program sc_law_program (fun cdv A outer s H E hgd hr => have Sc := sc_law_program; (ess_cons (es_set Sc.nd rfl (Or.inl rfl) (ev_slice (ev_tup (ea_cons (ev_tup (ea_cons ev_str (ea_cons ev_int (ea_cons ev_str ea_nil))) (le_sz 3 (by decide))) (ea_cons (ev_tup (ea_cons ev_str (ea_cons ev_int (ea_cons ev_str ea_nil))) (le_sz 3 (by decide))) (ea_cons (ev_tup (ea_cons ev_str (ea_cons ev_int (ea_cons ev_str ea_nil))) (le_sz 3 (by decide))) ea_nil))) (le_sz 3 (by decide))) eo_none (eo_some (ev_bin op_addD op2_add ev_int (ev_call (k := 8) ((d_law_take M).mono (by decide)) hgd (hr.mono (by decide)) (takes_of rfl rfl rfl rfl) rfl M.g_law_take M.k_law_take M.b_law_take (ea_cons (ev_var (pv 0)) (ea_cons ev_int ea_nil))))))) (ess_cons (es_set Sc.nd rfl (Or.inl rfl) (ev_slice (ev_tup (ea_cons ev_str (ea_cons ev_str (ea_cons ev_str (ea_cons ev_str ea_nil)))) (le_sz 4 (by decide))) eo_none (eo_some (ev_bin op_addD op2_add ev_int (ev_call (k := 8) ((d_law_take M).mono (by decide)) hgd (hr.mono (by decide)) (takes_of rfl rfl rfl rfl) rfl M.g_law_take M.k_law_take M.b_law_take (ea_cons (ev_var (pv 0)) (ea_cons ev_int ea_nil))))))) (ess_cons (es_set Sc.nd rfl (Or.inl rfl) (ev_t1 call_tuple_of o1_tuple rfl M.n_tuple (by decide +kernel) (ev_lc (own := [("name", 7)]) rfl Sc.nd (ei_seq (ev_var (pv 3))) (show BlkOk N_law_program (defScope s_law_program) _ _ from ⟨rfl, by decide +kernel, by decide +kernel, by decide +kernel, by decide +kernel⟩) (fun _ _ _ _ _ => (eg_name Sc.nd rfl (Or.inl rfl))) (fun _ _ _ _ _ => (pts_m (et_cmp (op_eqD (Room.units hr)) op2_D (ev_call (k := 8) ((d_law_take M).mono (by decide)) hgd (hr.mono (by decide)) takes0 rfl M.g_law_take M.k_law_take M.b_law_take (ea_cons (ev_var (pv 0)) (ea_cons ev_int ea_nil))) ev_int (nomark _)))) (fun _ _ _ _ _ => (ev_var (pv 7)))))) (ess_cons (es_set Sc.nd rfl (Or.inl rfl) (ev_dict (ed_cons (ev_var (pv 2)) (ed_cons (ev_var (pv 3)) (ed_cons (ev_bin op_addD op2_add (ev_t1 call_list_of o1_list rfl M.n_list (by decide +kernel) (ev_var (pv 3))) (ev_lst (ea_cons ev_str (ea_cons ev_str ea_nil)) (le_sz 2 (by decide)))) ed_nil))))) (ess_cons (es_set Sc.nd rfl (Or.inl rfl) (ev_call (k := 8) ((d_law_body M).mono (by decide)) hgd (hr.mono (by decide)) (takes_of rfl rfl rfl rfl) rfl M.g_law_body M.k_law_body M.b_law_body (ea_cons (ev_var (pv 0)) (ea_cons (ev_var (pv 5)) (ea_cons ev_int (ea_cons (ev_var (pv 1)) ea_nil)))))) (ess_one (es_ret (ev_tup (ea_cons (ev_var (pv 2)) (ea_cons (ev_tup (ea_cons ev_str (ea_cons ev_str ea_nil)) (le_sz 2 (by decide))) (ea_cons (ev_var (pv 3)) (ea_cons (ev_var (pv 4)) (ea_cons (ev_tup ea_nil (le_sz 0 (by decide))) (ea_cons (ev_var (pv 6)) ea_nil)))))) (le_sz 6 (by decide))))))))))) fun β as r _ h => h
def N_law_bodies : List Str := ["statement"]
theorem sc_law_bodies : FnScope N_law_bodies ["statement"] (defScope s_law_bodies) := ⟨rfl, rfl, rfl, by decide +kernel, rfl, by decide +kernel, by decide +kernel⟩
def m_law_bodies : M Fl :=
  (mThen (mIfS (mIs (mBin cIn (mBin dIx (mVar 0) (mC (.int 0))) (mTup [(mC (.str "if")), (mC (.str "choose"))]))) (mRet (mSl (mVar 0) (some (mC (.int (-2)))) none)) mNx) (mRet (mIf (mIs (mBin cIn (mBin dIx (mVar 0) (mC (.int 0))) (mTup [(mC (.str "while")), (mC (.str "loop"))]))) (mSl (mVar 0) (some (mC (.int (-1)))) none) (mTup []))))
def F_law_bodies : Fn := runDef 1 m_law_bodies
theorem d_law_bodies {w : World} {K : PySem.W.Frag} {mg : Str → Option Value} {base : Heap} (M : Md w K mg) : FnG prg w K mg base (L2.CX prg w) 1 M.f_law_bodies M.fd_law_bodies ["statement"] (SpM K mg 1 F_law_bodies) :=
  fnM (m := m_law_bodies) M.U_law_bodies sc_law_bodies (fun cdv A outer s H E hgd hr => have Sc := sc_law_bodies; (ess_cons (es_if (et_cmp (op_inD (Room.units hr)) op2_D (ev_ix ix_seq op2_ix (ev_var (pv 0)) ev_int fun _ _ => rfl) (ev_tup (ea_cons ev_str (ea_cons ev_str ea_nil)) (le_sz 2 (by decide))) rfl) (ess_one (es_ret (ev_slice (ev_var (pv 0)) (eo_some ev_neg) eo_none))) ess_nil) (ess_one (es_ret (ev_if (et_cmp (op_inD (Room.units hr)) op2_D (ev_ix ix_seq op2_ix (ev_var (pv 0)) ev_int fun _ _ => rfl) (ev_tup (ea_cons ev_str (ea_cons ev_str ea_nil)) (le_sz 2 (by decide))) rfl) (ev_slice (ev_var (pv 0)) (eo_some ev_neg) eo_none) (ev_tup ea_nil (le_sz 0 (by decide)))))))) fun β as r _ h => h
def N_law_size : List Str := ["body", "one", "inner"]
theorem sc_law_size : FnScope N_law_size ["body"] (defScope s_law_size) := ⟨rfl, rfl, rfl, by decide +kernel, rfl, by decide +kernel, by decide +kernel⟩
def m_law_size (Fa : Fn) : M Fl :=
  (mRet (mUn dSum (mComp [1] (mSeq (mVar 0)) (.nm 1) mYes (mBin dAdd (mC (.int 1)) (mUn dSum (mComp [2] (mSeq (mCall F_law_bodies [(mVar 1)])) (.nm 2) mYes (mCall Fa [(mVar 2)])))))))
def FF_law_size : Nat → Fn
  | 0 => fun _ _ => none
  | n + 1 => runDef 3 (m_law_size (FF_law_size n))
theorem dd_law_size {w : World} {K : PySem.W.Frag} {mg : Str → Option Value} {base : Heap} (M : Md w K mg) : ∀ n : Nat, FnG prg w K mg base (L2.CX prg w) (1 + n) M.f_law_size M.fd_law_size ["body"] (SpM K mg 1 (FF_law_size n))
  | 0 => fnG_none
  | n + 1 => by
    have ih := dd_law_size (w := w) (base := base) M n
    exact fnM (k := 1 + n) (m := m_law_size (FF_law_size n)) M.U_law_size sc_law_size (fun cdv A outer s H E hgd hr => have Sc := sc_law_size; (ess_one (es_ret (ev_b1 (cr_sum rfl) o1_sum rfl M.n_sum (by decide +kernel) (ev_lc (own := [("one", 1)]) rfl Sc.nd (ei_seq (ev_var (pv 0))) (show BlkOk N_law_size (defScope s_law_size) _ _ from ⟨rfl, by decide +kernel, by decide +kernel, by decide +kernel, by decide +kernel⟩) (fun _ _ _ _ _ => (eg_name Sc.nd rfl (Or.inl rfl))) (fun _ _ _ _ _ => pts_none) (fun _ _ _ _ _ => (ev_bin op_addD op2_add ev_int (ev_b1 (cr_sum rfl) o1_sum rfl M.n_sum (by decide +kernel) (ev_lc (own := [("inner", 2)]) rfl Sc.nd (ei_seq (ev_call (k := 1 + n) ((d_law_bodies M).mono (by omega)) hgd (hr.mono (by omega)) takes0 rfl M.g_law_bodies M.k_law_bodies M.b_law_bodies (ea_cons (ev_var (pv 1)) ea_nil))) (show BlkOk N_law_size (inSc s_law_size) _ _ from ⟨rfl, by decide +kernel, by decide +kernel, by decide +kernel, by decide +kernel⟩) (fun _ _ _ _ _ => (eg_name Sc.nd rfl (Or.inl rfl))) (fun _ _ _ _ _ => pts_none) (fun _ _ _ _ _ => (ev_call (k := 1 + n) ih hgd (hr.mono (by omega)) takes0 rfl M.g_law_size M.k_law_size M.b_law_size (ea_cons (ev_var (pv 2)) ea_nil)))))))))))) fun β as r _ h => h
def F_law_size : Fn := FF_law_size 5
theorem d_law_size {w : World} {K : PySem.W.Frag} {mg : Str → Option Value} {base : Heap} (M : Md w K mg) : FnG prg w K mg base (L2.CX prg w) 6 M.f_law_size M.fd_law_size ["body"] (SpM K mg 1 F_law_size) := dd_law_size M 5
def N_law_laid : List Str := ["body", "first", "behind", "found", "at", "k", "one", "after", "later", "inners", "begin", "firsts", "back", "inner"]
theorem sc_law_laid : FnScope N_law_laid ["body", "first", "behind"] (defScope s_law_laid) := ⟨rfl, rfl, rfl, by decide +kernel, rfl, by decide +kernel, by decide +kernel⟩
def m_law_laid (Fa : Fn) : M Fl :=
  (mThen (mPar 3 4 (mLst []) (mVar 1)) (mThen (mFor (mNum (mVar 0)) (.tup [(.nm 5), (.nm 6)]) (mThen (mSet 7 (mBin dAdd (mBin dAdd (mVar 4) (mC (.int 1))) (mUn dSum (mComp [13] (mSeq (mCall F_law_bodies [(mVar 6)])) (.nm 13) mYes (mCall F_law_size [(mVar 13)]))))) (mThen (mSet 8 (mIf (mIs (mBin cLt (mBin dAdd (mVar 5) (mC (.int 1))) (mUn dLenD (mVar 0)))) (mVar 7) (mVar 2))) (mThen (mParL 9 10 11 [(mLst []), (mBin dAdd (mVar 4) (mC (.int 1))), (mLst [])]) (mThen (mSet 12 (mIf (mIs (mBin cIn (mBin dIx (mVar 6) (mC (.int 0))) (mTup [(mC (.str "while")), (mC (.str "loop"))]))) (mVar 4) (mVar 8))) (mThen (mFor (mSeq (mCall F_law_bodies [(mVar 6)])) (.nm 13) (mThen (mExpr (mAppend 11 (mIf (mIs (mBin cNe (mVar 13) (mTup []))) (mVar 10) (mVar 12)))) (mThen (mSet 9 (mBin dAdd (mVar 9) (mCall Fa [(mVar 13), (mVar 10), (mVar 12)]))) (mSet 10 (mBin dAdd (mVar 10) (mCall F_law_size [(mVar 13)])))))) (mThen (mSet 3 (mBin dAdd (mBin dAdd (mVar 3) (mLst [(mTup [(mVar 6), (mVar 4), (mVar 11), (mVar 8)])])) (mVar 9))) (mSet 4 (mVar 7))))))))) (mRet (mVar 3))))
def FF_law_laid : Nat → Fn
  | 0 => fun _ _ => none
  | n + 1 => runDef 14 (m_law_laid (FF_law_laid n))
theorem dd_law_laid {w : World} {K : PySem.W.Frag} {mg : Str → Option Value} {base : Heap} (M : Md w K mg) : ∀ n : Nat, FnG prg w K mg base (L2.CX prg w) (7 + n) M.f_law_laid M.fd_law_laid ["body", "first", "behind"] (SpM K mg 3 (FF_law_laid n))
  | 0 => fnG_none
  | n + 1 => by
    have ih := dd_law_laid (w := w) (base := base) M n
    exact fnM (k := 7 + n) (m := m_law_laid (FF_law_laid n)) M.U_law_laid sc_law_laid (fun cdv A outer s H E hgd hr => have Sc := sc_law_laid; (ess_cons (es_par rfl Sc.nd rfl rfl (by decide) rfl rfl (ev_lst ea_nil (le_sz 0 (by decide))) (ev_var (pv 1)) rfl) (ess_cons (es_for (passes_of rfl) rfl (ei_num rfl M.n_enumerate (ev_var (pv 0))) (eg_tup rfl (egs_cons (eg_name Sc.nd rfl (Or.inl rfl)) (egs_cons (eg_name Sc.nd rfl (Or.inl rfl)) egs_nil))) (ess_cons (es_set Sc.nd rfl (Or.inl rfl) (ev_bin op_addD op2_add (ev_bin op_addD op2_add (ev_var (pv 4)) ev_int) (ev_b1 (cr_sum rfl) o1_sum rfl M.n_sum (by decide +kernel) (ev_lc (own := [("inner", 13)]) rfl Sc.nd (ei_seq (ev_call (k := 7 + n) ((d_law_bodies M).mono (by omega)) hgd (hr.mono (by omega)) (takes_of rfl rfl rfl rfl) rfl M.g_law_bodies M.k_law_bodies M.b_law_bodies (ea_cons (ev_var (pv 6)) ea_nil))) (show BlkOk N_law_laid (defScope s_law_laid) _ _ from ⟨rfl, by decide +kernel, by decide +kernel, by decide +kernel, by decide +kernel⟩) (fun _ _ _ _ _ => (eg_name Sc.nd rfl (Or.inl rfl))) (fun _ _ _ _ _ => pts_none) (fun _ _ _ _ _ => (ev_call (k := 7 + n) ((d_law_size M).mono (by omega)) hgd (hr.mono (by omega)) takes0 rfl M.g_law_size M.k_law_size M.b_law_size (ea_cons (ev_var (pv 13)) ea_nil))))))) (ess_cons (es_set Sc.nd rfl (Or.inl rfl) (ev_if (et_cmp (op_ltD (Room.units hr)) op2_D (ev_bin op_addD op2_add (ev_var (pv 5)) ev_int) (ev_b1 call_lenD o1_lenD rfl M.n_len boot_len (ev_var (pv 0))) (nomark _)) (ev_var (pv 7)) (ev_var (pv 2)))) (ess_cons (es_parL rfl Sc.nd rfl rfl rfl (by decide) (by decide) (by decide) rfl rfl rfl (ev_lst ea_nil (le_sz 0 (by decide))) (ev_bin op_addD op2_add (ev_var (pv 4)) ev_int) (ev_lst ea_nil (le_sz 0 (by decide))) rfl) (ess_cons (es_set Sc.nd rfl (Or.inl rfl) (ev_if (et_cmp (op_inD (Room.units hr)) op2_D (ev_ix ix_seq op2_ix (ev_var (pv 6)) ev_int fun _ _ => rfl) (ev_tup (ea_cons ev_str (ea_cons ev_str ea_nil)) (le_sz 2 (by decide))) rfl) (ev_var (pv 4)) (ev_var (pv 8)))) (ess_cons (es_for (passes_of rfl) rfl (ei_seq (ev_call (k := 7 + n) ((d_law_bodies M).mono (by omega)) hgd (hr.mono (by omega)) (takes_of rfl rfl rfl rfl) rfl M.g_law_bodies M.k_law_bodies M.b_law_bodies (ea_cons (ev_var (pv 6)) ea_nil))) (eg_name Sc.nd rfl (Or.inl rfl)) (ess_cons (es_expr (ev_append (pe_bm PySem.F.plainAttrs_list PySem.F.slot_list_append PySem.F.type_list_append mt_append (pv 11) (pa_cons (ev_if (et_cmp (op_neD (Room.units hr)) op2_D (ev_var (pv 13)) (ev_tup ea_nil (le_sz 0 (by decide))) (nomark _)) (ev_var (pv 10)) (ev_var (pv 12))) pa_nil)))) (ess_cons (es_set Sc.nd rfl (Or.inl rfl) (ev_bin op_addD op2_add (ev_var (pv 9)) (ev_call (k := 7 + n) ih hgd (hr.mono (by omega)) (takes_of rfl rfl rfl rfl) rfl M.g_law_laid M.k_law_laid M.b_law_laid (ea_cons (ev_var (pv 13)) (ea_cons (ev_var (pv 10)) (ea_cons (ev_var (pv 12)) ea_nil)))))) (ess_one (es_set Sc.nd rfl (Or.inl rfl) (ev_bin op_addD op2_add (ev_var (pv 10)) (ev_call (k := 7 + n) ((d_law_size M).mono (by omega)) hgd (hr.mono (by omega)) (takes_of rfl rfl rfl rfl) rfl M.g_law_size M.k_law_size M.b_law_size (ea_cons (ev_var (pv 13)) ea_nil)))))))) (ess_cons (es_set Sc.nd rfl (Or.inl rfl) (ev_bin op_addD op2_add (ev_bin op_addD op2_add (ev_var (pv 3)) (ev_lst (ea_cons (ev_tup (ea_cons (ev_var (pv 6)) (ea_cons (ev_var (pv 4)) (ea_cons (ev_var (pv 11)) (ea_cons (ev_var (pv 8)) ea_nil)))) (le_sz 4 (by decide))) ea_nil) (le_sz 1 (by decide)))) (ev_var (pv 9)))) (ess_one (es_set Sc.nd rfl (Or.inl rfl) (ev_var (pv 7))))))))))) (ess_one (es_ret (ev_var (pv 3))))))) fun β as r _ h => h
def F_law_laid : Fn := FF_law_laid 5
theorem d_law_laid {w : World} {K : PySem.W.Frag} {mg : Str → Option Value} {base : Heap} (M : Md w K mg) : FnG prg w K mg base (L2.CX prg w) 12 M.f_law_laid M.fd_law_laid ["body", "first", "behind"] (SpM K mg 3 F_law_laid) := dd_law_laid M 5
def N_law_places : List Str := ["program", "many", "one", "number", "firsts", "later"]
theorem sc_law_places : FnScope N_law_places ["program"] (defScope s_law_places) := ⟨rfl, rfl, rfl, by decide +kernel, rfl, by decide +kernel, by decide +kernel⟩
def m_law_places : M Fl :=
  (mThen (mSet 1 (mCall F_law_size [(mBin dIx (mVar 0) (mC (.int 5)))])) (mRet (mUn dDictP (mComp [2, 3, 4, 5] (mSeq (mCall F_law_laid [(mBin dIx (mVar 0) (mC (.int 5))), (mC (.int 0)), (mVar 1)])) (.tup [(.nm 2), (.nm 3), (.nm 4), (.nm 5)]) mYes (mTup [(mVar 3), (mTup [(mVar 2), (mVar 4), (mVar 5)])])))))
def F_law_places : Fn := runDef 6 m_law_places
theorem d_law_places {w : World} {K : PySem.W.Frag} {mg : Str → Option Value} {base : Heap} (M : Md w K mg) : FnG prg w K mg base (L2.CX prg w) 14 M.f_law_places M.fd_law_places ["program"] (SpM K mg 1 F_law_places) :=
  fnM (m := m_law_places) M.U_law_places sc_law_places (fun cdv A outer s H E hgd hr => have Sc := sc_law_places; (ess_cons (es_set Sc.nd rfl (Or.inl rfl) (ev_call (k := 13) ((d_law_size M).mono (by decide)) hgd (hr.mono (by decide)) (takes_of rfl rfl rfl rfl) rfl M.g_law_size M.k_law_size M.b_law_size (ea_cons (ev_ix ix_seq op2_ix (ev_var (pv 0)) ev_int fun _ _ => rfl) ea_nil))) (ess_one (es_ret (ev_t1 (call_dictP rfl) o1_dictP rfl M.n_dict (by decide +kernel) (ev_lc (own := [("one", 2), ("number", 3), ("firsts", 4), ("later", 5)]) rfl Sc.nd (ei_seq (ev_call (k := 13) ((d_law_laid M).mono (by decide)) hgd (hr.mono (by decide)) (takes_of rfl rfl rfl rfl) rfl M.g_law_laid M.k_law_laid M.b_law_laid (ea_cons (ev_ix ix_seq op2_ix (ev_var (pv 0)) ev_int fun _ _ => rfl) (ea_cons ev_int (ea_cons (ev_var (pv 1)) ea_nil))))) (show BlkOk N_law_places (defScope s_law_places) _ _ from ⟨rfl, by decide +kernel, by decide +kernel, by decide +kernel, by decide +kernel⟩) (fun _ _ _ _ _ => (eg_tup rfl (egs_cons (eg_name Sc.nd rfl (Or.inl rfl)) (egs_cons (eg_name Sc.nd rfl (Or.inl rfl)) (egs_cons (eg_name Sc.nd rfl (Or.inl rfl)) (egs_cons (eg_name Sc.nd rfl (Or.inl rfl)) egs_nil)))))) (fun _ _ _ _ _ => pts_none) (fun _ _ _ _ _ => (ev_tup (ea_cons (ev_var (pv 3)) (ea_cons (ev_tup (ea_cons (ev_var (pv 2)) (ea_cons (ev_var (pv 4)) (ea_cons (ev_var (pv 5)) ea_nil))) (le_sz 3 (by decide))) ea_nil)) (le_sz 2 (by decide)))))))))) fun β as r _ h => h
def N_law_alike : List Str := ["found", "due"]
theorem sc_law_alike : FnScope N_law_alike ["found", "due"] (defScope s_law_alike) := ⟨rfl, rfl, rfl, by decide +kernel, rfl, by decide +kernel, by decide +kernel⟩
def m_law_alike : M Fl :=
  (mRet (mAndV (mBin cEq (mUn dRep (mVar 0)) (mUn dRep (mVar 1))) (mBin cEq (mVar 0) (mVar 1))))
theorem d_law_alike {w : World} {K : PySem.W.Frag} {mg : Str → Option Value} {base : Heap} (M : Md w K mg) : FnG prg w K mg base (L2.CX prg w) 1 M.f_law_alike M.fd_law_alike ["found", "due"] (SpM K mg 2 F_alike) :=
  fnM (m := m_law_alike) M.U_law_alike sc_law_alike (fun cdv A outer s H E hgd hr => have Sc := sc_law_alike; (ess_one (es_ret (ev_and (ev_cmp (op_eqD (Room.units hr)) op2_D (ev_b1 (call_repD (Room.units hr) hgd) o1_rep rfl M.n_repr (by decide +kernel) (ev_var (pv 0))) (ev_b1 (call_repD (Room.units hr) hgd) o1_rep rfl M.n_repr (by decide +kernel) (ev_var (pv 1))) (nomark _)) (ev_one (ev_cmp (op_eqD (Room.units hr)) op2_D (ev_var (pv 0)) (ev_var (pv 1)) (nomark _))))))) (hf_alike _ rfl)
def N_bodies_of : List Str := ["statement", "kind", "part"]
theorem sc_bodies_of : FnScope N_bodies_of ["statement"] (defScope s_bodies_of) := ⟨rfl, rfl, rfl, by decide +kernel, rfl, by decide +kernel, by decide +kernel⟩
def m_bodies_of : M Fl :=
  (mRet (mUn dTuple (mComp [1, 2] (mZipS (mTab tab_SHAPES (mBin dIx (mVar 0) (mC (.int 0)))) (mSl (mVar 0) (some (mC (.int 1))) none)) (.tup [(.nm 1), (.nm 2)]) (mIs (mBin cEq (mVar 1) (mC (.str "b")))) (mVar 2))))
def F_bodies_of : Fn := runDef 3 m_bodies_of
theorem o_bodies_of {w : World} {K : PySem.W.Frag} {mg : Str → Option Value} {base : Heap} (M : Md w K mg) : FnOk prg w K mg base (L2.CX prg w) 1 M.f_bodies_of M.fd_bodies_of ["statement"] (SpM K mg 1 F_bodies_of) :=
  fnMO (m := m_bodies_of) M.U_bodies_of sc_bodies_of (fun cdv A outer s H E hr => have Sc := sc_bodies_of; (ess_one (es_ret (ev_t1 call_tuple_of o1_tuple rfl M.n_tuple (by decide +kernel) (ev_lc (own := [("kind", 1), ("part", 2)]) rfl Sc.nd (ei_zipS rfl M.n_zip (ev_tab M.T_SHAPES rfl (ev_ix ix_seq op2_ix (ev_var (pv 0)) ev_int fun _ _ => rfl) fun _ _ => rfl) (ev_slice (ev_var (pv 0)) (eo_some ev_int) eo_none)) (show BlkOk N_bodies_of (defScope s_bodies_of) _ _ from ⟨rfl, by decide +kernel, by decide +kernel, by decide +kernel, by decide +kernel⟩) (fun _ _ _ _ _ => (eg_tup rfl (egs_cons (eg_name Sc.nd rfl (Or.inl rfl)) (egs_cons (eg_name Sc.nd rfl (Or.inl rfl)) egs_nil)))) (fun _ _ _ _ _ => (pts_m (et_cmp (op_eqD (Room.units hr)) op2_D (ev_var (pv 1)) ev_str (nomark _)))) (fun _ _ _ _ _ => (ev_var (pv 2)))))))) fun β as r _ h => h
def N_nodes_of : List Str := ["body", "found", "waiting", "statement", "many", "inner", "its", "one"]
theorem sc_nodes_of : FnScope N_nodes_of ["body"] (defScope s_nodes_of) := ⟨rfl, rfl, rfl, by decide +kernel, rfl, by decide +kernel, by decide +kernel⟩
def m_nodes_of : M Fl :=
  (mThen (mPar 1 2 (mLst []) (mComp [3] (mSeq (mUn dRev (mVar 0))) (.nm 3) mYes (mTup [(mVar 3), (mC (.int 1))]))) (mThen (loopW (mTru (mVar 2)) (mThen (mAsg (.tup [(.nm 3), (.nm 4)]) (mPop 2)) (mThen (mExpr (mAppend 1 (mTup [(mVar 3), (mVar 4)]))) (mThen (mSet 5 (mComp2 [6, 7] [7] (mSeq (mCall F_bodies_of [(mVar 3)])) (.nm 6) mYes (mSeq (mVar 6)) (.nm 7) mYes (mTup [(mVar 7), (mBin dAdd (mVar 4) (mC (.int 1)))]))) (mExpr (mExtend 2 (mUn dRev (mVar 5))))))) 500) (mRet (mVar 1))))
def F_nodes_of : Fn := runDef 8 m_nodes_of
theorem o_nodes_of {w : World} {K : PySem.W.Frag} {mg : Str → Option Value} {base : Heap} (M : Md w K mg) : FnOk prg w K mg base (L2.CX prg w) 2 M.f_nodes_of M.fd_nodes_of ["body"] (SpM K mg 1 F_nodes_of) :=
  fnMO (m := m_nodes_of) M.U_nodes_of sc_nodes_of (fun cdv A outer s H E hr => have Sc := sc_nodes_of; (ess_cons (es_par rfl Sc.nd rfl rfl (by decide) rfl rfl (ev_lst ea_nil (le_sz 0 (by decide))) (ev_lc (own := [("statement", 3)]) rfl Sc.nd (ei_seq (ev_rev (ev_var (pv 0)))) (show BlkOk N_nodes_of (defScope s_nodes_of) _ _ from ⟨rfl, by decide +kernel, by decide +kernel, by decide +kernel, by decide +kernel⟩) (fun _ _ _ _ _ => (eg_name Sc.nd rfl (Or.inl rfl))) (fun _ _ _ _ _ => pts_none) (fun _ _ _ _ _ => (ev_tup (ea_cons (ev_var (pv 3)) (ea_cons ev_int ea_nil)) (le_sz 2 (by decide))))) rfl) (ess_cons (es_while 500 (passes_of rfl) (et_truth (ev_var (pv 2))) (ess_cons (es_asg (ev_pop (pe_bm0 PySem.F.plainAttrs_list PySem.F.slot_list_pop PySem.F.type_list_pop mt_pop (pv 2))) (eg_tup rfl (egs_cons (eg_name Sc.nd rfl (Or.inl rfl)) (egs_cons (eg_name Sc.nd rfl (Or.inr rfl)) egs_nil)))) (ess_cons (es_expr (ev_append (pe_bm PySem.F.plainAttrs_list PySem.F.slot_list_append PySem.F.type_list_append mt_append (pv 1) (pa_cons (ev_tup (ea_cons (ev_var (pv 3)) (ea_cons (ev_var (pv 4)) ea_nil)) (le_sz 2 (by decide))) pa_nil)))) (ess_cons (es_setLc2 (own := [("its", 6), ("one", 7)]) (vs1 := [7]) rfl Sc.nd rfl rfl (sw_true rfl rfl rfl (by decide +kernel)) (ei_seq (ev_callO (k := 1) ((o_bodies_of M).mono (by decide)) (hr.mono (by decide)) (takes_of rfl rfl rfl rfl) rfl M.g_bodies_of M.k_bodies_of M.b_bodies_of (ea_cons (ev_var (pv 3)) ea_nil))) (show BlkOk N_nodes_of (defScope s_nodes_of) _ _ from ⟨rfl, by decide +kernel, by decide +kernel, by decide +kernel, by decide +kernel⟩) (fun _ _ _ _ _ => (eg_name Sc.nd rfl (Or.inl rfl))) (fun _ _ _ _ _ => pts_none) (fun _ _ _ _ _ => (ei_seq (ev_var (pv 6)))) (fun _ _ _ _ _ => (eg_name Sc.nd rfl (Or.inl rfl))) (fun _ _ _ _ _ => pts_none) (fun _ _ _ _ _ => (ev_tup (ea_cons (ev_var (pv 7)) (ea_cons (ev_bin op_addD op2_add (ev_var (pv 4)) ev_int) ea_nil)) (le_sz 2 (by decide))))) (ess_one (es_expr (ev_extend (pe_bm PySem.F.plainAttrs_list PySem.F.slot_list_extend PySem.F.type_list_extend mt_extend (pv 2) (pa_cons (ev_rev (ev_var (pv 5))) pa_nil))))))))) (ess_one (es_ret (ev_var (pv 1))))))) fun β as r _ h => h
def N_Layout_inner : List Str := ["self", "statement", "number", "back", "found", "at", "firsts", "body"]
theorem sc_Layout_inner : FnScope N_Layout_inner ["self", "statement", "number"] (defScope s_Layout_inner) := ⟨rfl, rfl, rfl, by decide +kernel, rfl, by decide +kernel, by decide +kernel⟩
def m_Layout_inner : M Fl :=
  (mThen (mSet 3 (mIf (mIs (mBin cIn (mBin dIx (mVar 1) (mC (.int 0))) (mTup [(mC (.str "while")), (mC (.str "loop"))]))) (mVar 2) (mBin dIxK (mFld "Layout" (mVar 0) "behind") (mVar 2)))) (mThen (mParL 4 5 6 [(mLst []), (mBin dAdd (mVar 2) (mC (.int 1))), (mLst [])]) (mThen (mFor (mSeq (mCall F_bodies_of [(mVar 1)])) (.nm 7) (mThen (mExpr (mAppend 4 (mTup [(mVar 7), (mVar 5), (mVar 3)]))) (mThen (mExpr (mAppend 6 (mIf (mIs (mBin cNe (mVar 7) (mTup []))) (mVar 5) (mVar 3)))) (mAug 5 dAddI (mUn dLenD (mCall F_nodes_of [(mVar 7)])))))) (mThen (mDPut (mFld "Layout" (mVar 0) "first") (mVar 2) (mVar 6)) (mRet (mVar 4))))))
def F_Layout_inner : Fn := runDef 8 m_Layout_inner
theorem o_Layout_inner {w : World} {K : PySem.W.Frag} {mg : Str → Option Value} {base : Heap} (M : Md w K mg) : FnOk prg w K mg base (L2.CX prg w) 3 M.f_Layout_inner M.fd_Layout_inner ["self", "statement", "number"] (SpM K mg 3 F_Layout_inner) :=
  fnMO (m := m_Layout_inner) M.U_Layout_inner sc_Layout_inner (fun cdv A outer s H E hr => have Sc := sc_Layout_inner; (ess_cons (es_set Sc.nd rfl (Or.inl rfl) (ev_if (et_cmp (op_inD (Room.units hr)) op2_D (ev_ix ix_seq op2_ix (ev_var (pv 1)) ev_int fun _ _ => rfl) (ev_tup (ea_cons ev_str (ea_cons ev_str ea_nil)) (le_sz 2 (by decide))) rfl) (ev_var (pv 2)) (ev_ixK (Room.units hr) (ev_fld (C := "Layout") (ev_var (pv 0)) M.L_Layout M.z_Layout_behind) (ev_var (pv 2)) fun _ _ => rfl))) (ess_cons (es_parL rfl Sc.nd rfl rfl rfl (by decide) (by decide) (by decide) rfl rfl rfl (ev_lst ea_nil (le_sz 0 (by decide))) (ev_bin op_addD op2_add (ev_var (pv 2)) ev_int) (ev_lst ea_nil (le_sz 0 (by decide))) rfl) (ess_cons (es_for (passes_of rfl) rfl (ei_seq (ev_callO (k := 2) ((o_bodies_of M).mono (by decide)) (hr.mono (by decide)) (takes_of rfl rfl rfl rfl) rfl M.g_bodies_of M.k_bodies_of M.b_bodies_of (ea_cons (ev_var (pv 1)) ea_nil))) (eg_name Sc.nd rfl (Or.inl rfl)) (ess_cons (es_expr (ev_append (pe_bm PySem.F.plainAttrs_list PySem.F.slot_list_append PySem.F.type_list_append mt_append (pv 4) (pa_cons (ev_tup (ea_cons (ev_var (pv 7)) (ea_cons (ev_var (pv 5)) (ea_cons (ev_var (pv 3)) ea_nil))) (le_sz 3 (by decide))) pa_nil)))) (ess_cons (es_expr (ev_append (pe_bm PySem.F.plainAttrs_list PySem.F.slot_list_append PySem.F.type_list_append mt_append (pv 6) (pa_cons (ev_if (et_cmp (op_neD (Room.units hr)) op2_D (ev_var (pv 7)) (ev_tup ea_nil (le_sz 0 (by decide))) (nomark _)) (ev_var (pv 5)) (ev_var (pv 3))) pa_nil)))) (ess_one (es_aug Sc.nd rfl (Or.inl rfl) iop_add op2_addI (ev_b1 call_lenD o1_lenD rfl M.n_len boot_len (ev_callO (k := 2) ((o_nodes_of M).mono (by decide)) (hr.mono (by decide)) (takes_of rfl rfl rfl rfl) rfl M.g_nodes_of M.k_nodes_of M.b_nodes_of (ea_cons (ev_var (pv 7)) ea_nil)))))))) (ess_cons (es_dput (Room.units hr) (ev_fld (C := "Layout") (ev_var (pv 0)) M.L_Layout M.z_Layout_first) (ev_var (pv 2)) (ev_var (pv 6))) (ess_one (es_ret (ev_var (pv 4))))))))) fun β as r _ h => h
def N_Layout_init : List Str := ["self", "program", "end", "waiting", "body", "number", "behind", "at", "statement", "size", "many", "one"]
theorem sc_Layout_init : FnScope N_Layout_init ["self", "program"] (defScope s_Layout_init) := ⟨rfl, rfl, rfl, by decide +kernel, rfl, by decide +kernel, by decide +kernel⟩
def m_Layout_init : M Fl :=
  (mThen (mIfS (mIs (mBin cNe (mBin dIx (mVar 1) (mC (.int 4))) (mTup []))) (mRaise0 "Nothing") mNx) (mThen (mFldSet "Layout" (mVar 0) "statements" (mComp [8, 10] (mSeq (mCall F_nodes_of [(mBin dIx (mVar 1) (mC (.int 5)))])) (.tup [(.nm 8), (.nm 10)]) mYes (mVar 8))) (mThen (mFldSet "Layout" (mVar 0) "behind" (mCell mDictE)) (mThen (mFldSet "Layout" (mVar 0) "first" (mCell mDictE)) (mThen (mSet 2 (mUn dLenD (mFld "Layout" (mVar 0) "statements"))) (mThen (mSet 3 (mLst [(mTup [(mBin dIx (mVar 1) (mC (.int 5))), (mC (.int 0)), (mVar 2)])])) (loopW (mTru (mVar 3)) (mThen (mAsg (.tup [(.nm 4), (.nm 5), (.nm 6)]) (mPop 3)) (mFor (mNum (mVar 4)) (.tup [(.nm 7), (.nm 8)]) (mThen (mSet 9 (mBin dAdd (mC (.int 1)) (mUn dSum (mComp [11] (mSeq (mCall F_bodies_of [(mVar 8)])) (.nm 11) mYes (mUn dLenD (mCall F_nodes_of [(mVar 11)])))))) (mThen (mDPut (mFld "Layout" (mVar 0) "behind") (mVar 5) (mIf (mIs (mBin cLt (mBin dAdd (mVar 7) (mC (.int 1))) (mUn dLenD (mVar 4)))) (mBin dAdd (mVar 5) (mVar 9)) (mVar 6))) (mThen (mExpr (mExtend 3 (mMeth "Layout" "inner" F_Layout_inner (mVar 0) [(mVar 8), (mVar 5)]))) (mAug 5 dAddI (mVar 9))))))) 500)))))))
def F_Layout_init : Fn := runDef 12 m_Layout_init
theorem o_Layout_init {w : World} {K : PySem.W.Frag} {mg : Str → Option Value} {base : Heap} (M : Md w K mg) : FnOk prg w K mg base (L2.CX prg w) 4 M.f_Layout_init M.fd_Layout_init ["self", "program"] (SpM K mg 2 F_Layout_init) :=
  fnMO (m := m_Layout_init) M.U_Layout_init sc_Layout_init (fun cdv A outer s H E hr => have Sc := sc_Layout_init; (ess_cons (es_if (et_cmp (op_neD (Room.units hr)) op2_D (ev_ix ix_seq op2_ix (ev_var (pv 1)) ev_int fun _ _ => rfl) (ev_tup ea_nil (le_sz 0 (by decide))) (nomark _)) (ess_one (es_raise0 rfl (takes_of rfl rfl rfl rfl) M.g_Nothing (pmk_own0 PySem.F.excBase_ValueError M.q_Nothing M.g_Nothing M.kq_Nothing (raises_own M.s_Nothing M.ty_Nothing) rfl))) ess_nil) (ess_cons (es_fld (C := "Layout") (ev_var (pv 0)) (ev_lc (own := [("statement", 8), ("many", 10)]) rfl Sc.nd (ei_seq (ev_callO (k := 3) ((o_nodes_of M).mono (by decide)) (hr.mono (by decide)) (takes_of rfl rfl rfl rfl) rfl M.g_nodes_of M.k_nodes_of M.b_nodes_of (ea_cons (ev_ix ix_seq op2_ix (ev_var (pv 1)) ev_int fun _ _ => rfl) ea_nil))) (show BlkOk N_Layout_init (defScope s_Layout_init) _ _ from ⟨rfl, by decide +kernel, by decide +kernel, by decide +kernel, by decide +kernel⟩) (fun _ _ _ _ _ => (eg_tup rfl (egs_cons (eg_name Sc.nd rfl (Or.inl rfl)) (egs_cons (eg_name Sc.nd rfl (Or.inl rfl)) egs_nil)))) (fun _ _ _ _ _ => pts_none) (fun _ _ _ _ _ => (ev_var (pv 8)))) M.L_Layout M.z_Layout_statements) (ess_cons (es_fld (C := "Layout") (ev_var (pv 0)) (ev_cell ev_dictE) M.L_Layout M.z_Layout_behind) (ess_cons (es_fld (C := "Layout") (ev_var (pv 0)) (ev_cell ev_dictE) M.L_Layout M.z_Layout_first) (ess_cons (es_set Sc.nd rfl (Or.inl rfl) (ev_b1 call_lenD o1_lenD rfl M.n_len boot_len (ev_fld (C := "Layout") (ev_var (pv 0)) M.L_Layout M.z_Layout_statements))) (ess_cons (es_set Sc.nd rfl (Or.inl rfl) (ev_lst (ea_cons (ev_tup (ea_cons (ev_ix ix_seq op2_ix (ev_var (pv 1)) ev_int fun _ _ => rfl) (ea_cons ev_int (ea_cons (ev_var (pv 2)) ea_nil))) (le_sz 3 (by decide))) ea_nil) (le_sz 1 (by decide)))) (ess_one (es_while 500 (passes_of rfl) (et_truth (ev_var (pv 3))) (ess_cons (es_asg (ev_pop (pe_bm0 PySem.F.plainAttrs_list PySem.F.slot_list_pop PySem.F.type_list_pop mt_pop (pv 3))) (eg_tup rfl (egs_cons (eg_name Sc.nd rfl (Or.inl rfl)) (egs_cons (eg_name Sc.nd rfl (Or.inl rfl)) (egs_cons (eg_name Sc.nd rfl (Or.inl rfl)) egs_nil))))) (ess_one (es_for (passes_of rfl) rfl (ei_num rfl M.n_enumerate (ev_var (pv 4))) (eg_tup rfl (egs_cons (eg_name Sc.nd rfl (Or.inl rfl)) (egs_cons (eg_name Sc.nd rfl (Or.inl rfl)) egs_nil))) (ess_cons (es_set Sc.nd rfl (Or.inl rfl) (ev_bin op_addD op2_add ev_int (ev_b1 (cr_sum rfl) o1_sum rfl M.n_sum (by decide +kernel) (ev_lc (own := [("one", 11)]) rfl Sc.nd (ei_seq (ev_callO (k := 3) ((o_bodies_of M).mono (by decide)) (hr.mono (by decide)) (takes_of rfl rfl rfl rfl) rfl M.g_bodies_of M.k_bodies_of M.b_bodies_of (ea_cons (ev_var (pv 8)) ea_nil))) (show BlkOk N_Layout_init (defScope s_Layout_init) _ _ from ⟨rfl, by decide +kernel, by decide +kernel, by decide +kernel, by decide +kernel⟩) (fun _ _ _ _ _ => (eg_name Sc.nd rfl (Or.inl rfl))) (fun _ _ _ _ _ => pts_none) (fun _ _ _ _ _ => (ev_b1 call_lenD o1_lenD rfl M.n_len boot_len (ev_callO (k := 3) ((o_nodes_of M).mono (by decide)) (hr.mono (by decide)) takes0 rfl M.g_nodes_of M.k_nodes_of M.b_nodes_of (ea_cons (ev_var (pv 11)) ea_nil)))))))) (ess_cons (es_dput (Room.units hr) (ev_fld (C := "Layout") (ev_var (pv 0)) M.L_Layout M.z_Layout_behind) (ev_var (pv 5)) (ev_if (et_cmp (op_ltD (Room.units hr)) op2_D (ev_bin op_addD op2_add (ev_var (pv 7)) ev_int) (ev_b1 call_lenD o1_lenD rfl M.n_len boot_len (ev_var (pv 4))) (nomark _)) (ev_bin op_addD op2_add (ev_var (pv 5)) (ev_var (pv 9))) (ev_var (pv 6)))) (ess_cons (es_expr (ev_extend (pe_bm PySem.F.plainAttrs_list PySem.F.slot_list_extend PySem.F.type_list_extend mt_extend (pv 3) (pa_cons (ev_meth (C := "Layout") (k := 3) (ev_var (pv 0)) M.L_Layout M.m_Layout_inner ((o_Layout_inner M).mono (by decide)) (hr.mono (by decide)) (takes_of rfl rfl rfl rfl) M.b_Layout_inner (ea_cons (ev_var (pv 8)) (ea_cons (ev_var (pv 5)) ea_nil))) pa_nil)))) (ess_one (es_aug Sc.nd rfl (Or.inl rfl) iop_add op2_addI (ev_var (pv 9))))))))))))))))))) fun β as r _ h => h
def N_asked : List Str := ["statement", "same", "unlike", "y", "z"]
theorem sc_asked : FnScope N_asked ["statement", "same", "unlike"] (defScope s_asked) := ⟨rfl, rfl, rfl, by decide +kernel, rfl, by decide +kernel, by decide +kernel⟩
def m_asked : M Fl :=
  (mThen (mAsg (.tup [(.nm 3), (.nm 4)]) (mIf (mIs (mBin cEq (mBin dIx (mVar 0) (mC (.int 0))) (mC (.str "if")))) (mSl (mVar 0) (some (mC (.int 1))) (some (mC (.int 3)))) (mSl (mVar 0) (some (mC (.int 2))) (some (mC (.int 4)))))) (mRet (mTup [(mTup [(mC (.str "same")), (mTup [(mTup [(mC (.str "same")), (mVar 3), (mVar 4)])]), (mVar 1)]), (mTup [(mC (.str "unlike")), (mTup [(mTup [(mC (.str "unlike")), (mVar 3), (mVar 4)])]), (mVar 2)])])))
def F_asked : Fn := runDef 5 m_asked
theorem d_asked {w : World} {K : PySem.W.Frag} {mg : Str → Option Value} {base : Heap} (M : Md w K mg) : FnG prg w K mg base (L2.CX prg w) 1 M.f_asked M.fd_asked ["statement", "same", "unlike"] (SpM K mg 3 F_asked) :=
  fnM (m := m_asked) M.U_asked sc_asked (fun cdv A outer s H E hgd hr => have Sc := sc_asked; (ess_cons (es_asg (ev_if (et_cmp (op_eqD (Room.units hr)) op2_D (ev_ix ix_seq op2_ix (ev_var (pv 0)) ev_int fun _ _ => rfl) ev_str (nomark _)) (ev_slice (ev_var (pv 0)) (eo_some ev_int) (eo_some ev_int)) (ev_slice (ev_var (pv 0)) (eo_some ev_int) (eo_some ev_int))) (eg_tup rfl (egs_cons (eg_name Sc.nd rfl (Or.inl rfl)) (egs_cons (eg_name Sc.nd rfl (Or.inl rfl)) egs_nil)))) (ess_one (es_ret (ev_tup (ea_cons (ev_tup (ea_cons ev_str (ea_cons (ev_tup (ea_cons (ev_tup (ea_cons ev_str (ea_cons (ev_var (pv 3)) (ea_cons (ev_var (pv 4)) ea_nil))) (le_sz 3 (by decide))) ea_nil) (le_sz 1 (by decide))) (ea_cons (ev_var (pv 1)) ea_nil))) (le_sz 3 (by decide))) (ea_cons (ev_tup (ea_cons ev_str (ea_cons (ev_tup (ea_cons (ev_tup (ea_cons ev_str (ea_cons (ev_var (pv 3)) (ea_cons (ev_var (pv 4)) ea_nil))) (le_sz 3 (by decide))) ea_nil) (le_sz 1 (by decide))) (ea_cons (ev_var (pv 2)) ea_nil))) (le_sz 3 (by decide))) ea_nil)) (le_sz 2 (by decide))))))) fun β as r _ h => h
def N_is_number : List Str := ["thing"]
theorem sc_is_number : FnScope N_is_number ["thing"] (defScope s_is_number) := ⟨rfl, rfl, rfl, by decide +kernel, rfl, by decide +kernel, by decide +kernel⟩
def m_is_number : M Fl :=
  (mRet (mAndV (mUn (dIs PyData.isInt) (mVar 0)) (mNotV (mUn (dIs PyData.isBool) (mVar 0)))))
def F_is_number : Fn := runDef 1 m_is_number
theorem d_is_number {w : World} {K : PySem.W.Frag} {mg : Str → Option Value} {base : Heap} (M : Md w K mg) : FnG prg w K mg base (L2.CX prg w) 1 M.f_is_number M.fd_is_number ["thing"] (SpM K mg 1 F_is_number) :=
  fnM (m := m_is_number) M.U_is_number sc_is_number (fun cdv A outer s H E hgd hr => have Sc := sc_is_number; (ess_one (es_ret (ev_and (ev_isi (T := "int") call_isInt o1_is rfl M.n_isinstance rfl M.n_int (by decide +kernel) (ev_var (pv 0))) (ev_one (ev_not (ev_isi (T := "bool") call_isBool o1_is rfl M.n_isinstance rfl M.n_bool (by decide +kernel) (ev_var (pv 0))))))))) fun β as r _ h => h
def N_is_index : List Str := ["thing"]
theorem sc_is_index : FnScope N_is_index ["thing"] (defScope s_is_index) := ⟨rfl, rfl, rfl, by decide +kernel, rfl, by decide +kernel, by decide +kernel⟩
def m_is_index : M Fl :=
  (mRet (mAndV (mCall F_is_number [(mVar 0)]) (mBin cGe (mVar 0) (mC (.int 0)))))
def F_is_index : Fn := runDef 1 m_is_index
theorem d_is_index {w : World} {K : PySem.W.Frag} {mg : Str → Option Value} {base : Heap} (M : Md w K mg) : FnG prg w K mg base (L2.CX prg w) 2 M.f_is_index M.fd_is_index ["thing"] (SpM K mg 1 F_is_index) :=
  fnM (m := m_is_index) M.U_is_index sc_is_index (fun cdv A outer s H E hgd hr => have Sc := sc_is_index; (ess_one (es_ret (ev_and (ev_call (k := 1) ((d_is_number M).mono (by decide)) hgd (hr.mono (by decide)) (takes_of rfl rfl rfl rfl) rfl M.g_is_number M.k_is_number M.b_is_number (ea_cons (ev_var (pv 0)) ea_nil)) (ev_one (ev_cmp (op_geD (Room.units hr)) op2_D (ev_var (pv 0)) ev_int (nomark _))))))) fun β as r _ h => h
def N_next_steps : List Str := ["program", "place", "layout", "statement", "behind", "firsts", "word", "is_same"]
theorem sc_next_steps : FnScope N_next_steps ["program", "place"] (defScope s_next_steps) := ⟨rfl, rfl, rfl, by decide +kernel, rfl, by decide +kernel, by decide +kernel⟩
def m_next_steps : M Fl :=
  (mThen (mSet 2 (mNew "Layout" F_Layout_init [(mVar 0)])) (mThen (mIfS (mOrT (mNotT (mIs (mCall F_is_index [(mVar 1)]))) (mIs (mBin cGt (mVar 1) (mUn dLenD (mFld "Layout" (mVar 2) "statements"))))) (mRaise0 "Nothing") mNx) (mThen (mIfS (mIs (mBin cEq (mVar 1) (mUn dLenD (mFld "Layout" (mVar 2) "statements")))) (mRet (mTup [])) mNx) (mThen (mPar3 3 4 5 [(mBin dIx (mFld "Layout" (mVar 2) "statements") (mVar 1)), (mBin dIxK (mFld "Layout" (mVar 2) "behind") (mVar 1)), (mBin dIxK (mFld "Layout" (mVar 2) "first") (mVar 1))]) (mThen (mSet 6 (mBin dIx (mVar 3) (mC (.int 0)))) (mThen (mIfS (mIs (mBin cEq (mVar 6) (mC (.str "if")))) (mRet (mCall F_asked [(mVar 3), (mBin dIx (mVar 5) (mC (.int 0))), (mBin dIx (mVar 5) (mC (.int 1)))])) mNx) (mThen (mIfS (mIs (mBin cEq (mVar 6) (mC (.str "while")))) (mThen (mSet 7 (mBin cEq (mBin dIx (mVar 3) (mC (.int 1))) (mC (.str "same")))) (mRet (mCall F_asked [(mVar 3), (mIf (mIs (mVar 7)) (mBin dIx (mVar 5) (mC (.int 0))) (mVar 4)), (mIf (mIs (mVar 7)) (mVar 4) (mBin dIx (mVar 5) (mC (.int 0))))]))) mNx) (mThen (mIfS (mIs (mBin cEq (mVar 6) (mC (.str "choose")))) (mRet (mTup [(mTup [(mC (.int 0)), (mTup []), (mBin dIx (mVar 5) (mC (.int 0)))]), (mTup [(mC (.int 1)), (mTup []), (mBin dIx (mVar 5) (mC (.int 1)))])])) mNx) (mThen (mIfS (mIs (mBin cEq (mVar 6) (mC (.str "loop")))) (mRet (mTup [(mTup [(mC (.int 0)), (mTup []), (mVar 4)]), (mTup [(mC (.int 1)), (mTup []), (mBin dIx (mVar 5) (mC (.int 0)))])])) mNx) (mRet (mTup [(mTup [(mC .none), (mIf (mIs (mBin cIn (mVar 6) (mTup [(mC (.str "put")), (mC (.str "make")), (mC (.str "any"))]))) (mTup [(mVar 3)]) (mTup [])), (mVar 4)])])))))))))))
def F_next_steps : Fn := runDef 8 m_next_steps
theorem d_next_steps {w : World} {K : PySem.W.Frag} {mg : Str → Option Value} {base : Heap} (M : Md w K mg) : FnG prg w K mg base (L2.CX prg w) 6 M.f_next_steps M.fd_next_steps ["program", "place"] (SpM K mg 2 F_next_steps) :=
  fnM (m := m_next_steps) M.U_next_steps sc_next_steps (fun cdv A outer s H E hgd hr => have Sc := sc_next_steps; (ess_cons (es_set Sc.nd rfl (Or.inl rfl) (ev_new (C := "Layout") (k := 4) M.M_Layout ((o_Layout_init M).mono (by decide)) (hr.mono (by decide)) (takes_of rfl rfl rfl rfl) rfl M.g_Layout M.b_Layout_init (ea_cons (ev_var (pv 0)) ea_nil))) (ess_cons (es_if (et_w (ew_or (et_not (et_val (ev_call (k := 5) ((d_is_index M).mono (by decide)) hgd (hr.mono (by decide)) (takes_of rfl rfl rfl rfl) rfl M.g_is_index M.k_is_index M.b_is_index (ea_cons (ev_var (pv 1)) ea_nil)))) (ew_or1 (et_cmp (op_gtD (Room.units hr)) op2_D (ev_var (pv 1)) (ev_b1 call_lenD o1_lenD rfl M.n_len boot_len (ev_fld (C := "Layout") (ev_var (pv 2)) M.L_Layout M.z_Layout_statements)) (nomark _))))) (ess_one (es_raise0 rfl (takes_of rfl rfl rfl rfl) M.g_Nothing (pmk_own0 PySem.F.excBase_ValueError M.q_Nothing M.g_Nothing M.kq_Nothing (raises_own M.s_Nothing M.ty_Nothing) rfl))) ess_nil) (ess_cons (es_if (et_cmp (op_eqD (Room.units hr)) op2_D (ev_var (pv 1)) (ev_b1 call_lenD o1_lenD rfl M.n_len boot_len (ev_fld (C := "Layout") (ev_var (pv 2)) M.L_Layout M.z_Layout_statements)) (nomark _)) (ess_one (es_ret (ev_tup ea_nil (le_sz 0 (by decide))))) ess_nil) (ess_cons (es_par3 rfl Sc.nd rfl rfl rfl (by decide) (by decide) (by decide) rfl rfl rfl (ea_cons (ev_ix ix_seq op2_ix (ev_fld (C := "Layout") (ev_var (pv 2)) M.L_Layout M.z_Layout_statements) (ev_var (pv 1)) fun _ _ => rfl) (ea_cons (ev_ixK (Room.units hr) (ev_fld (C := "Layout") (ev_var (pv 2)) M.L_Layout M.z_Layout_behind) (ev_var (pv 1)) fun _ _ => rfl) (ea_cons (ev_ixK (Room.units hr) (ev_fld (C := "Layout") (ev_var (pv 2)) M.L_Layout M.z_Layout_first) (ev_var (pv 1)) fun _ _ => rfl) ea_nil))) rfl) (ess_cons (es_set Sc.nd rfl (Or.inl rfl) (ev_ix ix_seq op2_ix (ev_var (pv 3)) ev_int fun _ _ => rfl)) (ess_cons (es_if (et_cmp (op_eqD (Room.units hr)) op2_D (ev_var (pv 6)) ev_str (nomark _)) (ess_one (es_ret (ev_call (k := 5) ((d_asked M).mono (by decide)) hgd (hr.mono (by decide)) (takes_of rfl rfl rfl rfl) rfl M.g_asked M.k_asked M.b_asked (ea_cons (ev_var (pv 3)) (ea_cons (ev_ix ix_seq op2_ix (ev_var (pv 5)) ev_int fun _ _ => rfl) (ea_cons (ev_ix ix_seq op2_ix (ev_var (pv 5)) ev_int fun _ _ => rfl) ea_nil)))))) ess_nil) (ess_cons (es_if (et_cmp (op_eqD (Room.units hr)) op2_D (ev_var (pv 6)) ev_str (nomark _)) (ess_cons (es_set Sc.nd rfl (Or.inl rfl) (ev_cmp (op_eqD (Room.units hr)) op2_D (ev_ix ix_seq op2_ix (ev_var (pv 3)) ev_int fun _ _ => rfl) ev_str (nomark _))) (ess_one (es_ret (ev_call (k := 5) ((d_asked M).mono (by decide)) hgd (hr.mono (by decide)) (takes_of rfl rfl rfl rfl) rfl M.g_asked M.k_asked M.b_asked (ea_cons (ev_var (pv 3)) (ea_cons (ev_if (et_val (ev_var (pv 7))) (ev_ix ix_seq op2_ix (ev_var (pv 5)) ev_int fun _ _ => rfl) (ev_var (pv 4))) (ea_cons (ev_if (et_val (ev_var (pv 7))) (ev_var (pv 4)) (ev_ix ix_seq op2_ix (ev_var (pv 5)) ev_int fun _ _ => rfl)) ea_nil))))))) ess_nil) (ess_cons (es_if (et_cmp (op_eqD (Room.units hr)) op2_D (ev_var (pv 6)) ev_str (nomark _)) (ess_one (es_ret (ev_tup (ea_cons (ev_tup (ea_cons ev_int (ea_cons (ev_tup ea_nil (le_sz 0 (by decide))) (ea_cons (ev_ix ix_seq op2_ix (ev_var (pv 5)) ev_int fun _ _ => rfl) ea_nil))) (le_sz 3 (by decide))) (ea_cons (ev_tup (ea_cons ev_int (ea_cons (ev_tup ea_nil (le_sz 0 (by decide))) (ea_cons (ev_ix ix_seq op2_ix (ev_var (pv 5)) ev_int fun _ _ => rfl) ea_nil))) (le_sz 3 (by decide))) ea_nil)) (le_sz 2 (by decide))))) ess_nil) (ess_cons (es_if (et_cmp (op_eqD (Room.units hr)) op2_D (ev_var (pv 6)) ev_str (nomark _)) (ess_one (es_ret (ev_tup (ea_cons (ev_tup (ea_cons ev_int (ea_cons (ev_tup ea_nil (le_sz 0 (by decide))) (ea_cons (ev_var (pv 4)) ea_nil))) (le_sz 3 (by decide))) (ea_cons (ev_tup (ea_cons ev_int (ea_cons (ev_tup ea_nil (le_sz 0 (by decide))) (ea_cons (ev_ix ix_seq op2_ix (ev_var (pv 5)) ev_int fun _ _ => rfl) ea_nil))) (le_sz 3 (by decide))) ea_nil)) (le_sz 2 (by decide))))) ess_nil) (ess_one (es_ret (ev_tup (ea_cons (ev_tup (ea_cons ev_non (ea_cons (ev_if (et_cmp (op_inD (Room.units hr)) op2_D (ev_var (pv 6)) (ev_tup (ea_cons ev_str (ea_cons ev_str (ea_cons ev_str ea_nil))) (le_sz 3 (by decide))) rfl) (ev_tup (ea_cons (ev_var (pv 3)) ea_nil) (le_sz 1 (by decide))) (ev_tup ea_nil (le_sz 0 (by decide)))) (ea_cons (ev_var (pv 4)) ea_nil))) (le_sz 3 (by decide))) ea_nil) (le_sz 1 (by decide))))))))))))))) fun β as r _ h => h
def N_end_place : List Str := ["program"]
theorem sc_end_place : FnScope N_end_place ["program"] (defScope s_end_place) := ⟨rfl, rfl, rfl, by decide +kernel, rfl, by decide +kernel, by decide +kernel⟩
def m_end_place : M Fl :=
  (mRet (mUn dLenD (mFld "Layout" (mNew "Layout" F_Layout_init [(mVar 0)]) "statements")))
def F_end_place : Fn := runDef 1 m_end_place
theorem d_end_place {w : World} {K : PySem.W.Frag} {mg : Str → Option Value} {base : Heap} (M : Md w K mg) : FnG prg w K mg base (L2.CX prg w) 6 M.f_end_place M.fd_end_place ["program"] (SpM K mg 1 F_end_place) :=
  fnM (m := m_end_place) M.U_end_place sc_end_place (fun cdv A outer s H E hgd hr => have Sc := sc_end_place; (ess_one (es_ret (ev_b1 call_lenD o1_lenD rfl M.n_len boot_len (ev_fld (C := "Layout") (ev_new (C := "Layout") (k := 4) M.M_Layout ((o_Layout_init M).mono (by decide)) (hr.mono (by decide)) (takes_of rfl rfl rfl rfl) rfl M.g_Layout M.b_Layout_init (ea_cons (ev_var (pv 0)) ea_nil)) M.L_Layout M.z_Layout_statements))))) fun β as r _ h => h
def N_is_place : List Str := ["program", "thing", "end"]
theorem sc_is_place : FnScope N_is_place ["program", "thing"] (defScope s_is_place) := ⟨rfl, rfl, rfl, by decide +kernel, rfl, by decide +kernel, by decide +kernel⟩
def m_is_place : M Fl :=
  (mThen (mSet 2 (mCall F_end_place [(mVar 0)])) (mRet (mAndV (mCall F_is_index [(mVar 1)]) (mBin cLe (mVar 1) (mVar 2)))))
def F_is_place : Fn := runDef 3 m_is_place
theorem d_is_place {w : World} {K : PySem.W.Frag} {mg : Str → Option Value} {base : Heap} (M : Md w K mg) : FnG prg w K mg base (L2.CX prg w) 7 M.f_is_place M.fd_is_place ["program", "thing"] (SpM K mg 2 F_is_place) :=
  fnM (m := m_is_place) M.U_is_place sc_is_place (fun cdv A outer s H E hgd hr => have Sc := sc_is_place; (ess_cons (es_set Sc.nd rfl (Or.inl rfl) (ev_call (k := 6) ((d_end_place M).mono (by decide)) hgd (hr.mono (by decide)) (takes_of rfl rfl rfl rfl) rfl M.g_end_place M.k_end_place M.b_end_place (ea_cons (ev_var (pv 0)) ea_nil))) (ess_one (es_ret (ev_and (ev_call (k := 6) ((d_is_index M).mono (by decide)) hgd (hr.mono (by decide)) (takes_of rfl rfl rfl rfl) rfl M.g_is_index M.k_is_index M.b_is_index (ea_cons (ev_var (pv 1)) ea_nil)) (ev_one (ev_cmp (op_leD (Room.units hr)) op2_D (ev_var (pv 1)) (ev_var (pv 2)) (nomark _)))))))) fun β as r _ h => h
def N_first_place : List Str := ["program"]
theorem sc_first_place : FnScope N_first_place ["program"] (defScope s_first_place) := ⟨rfl, rfl, rfl, by decide +kernel, rfl, by decide +kernel, by decide +kernel⟩
def m_first_place : M Fl :=
  (mThen (mExpr (mNew "Layout" F_Layout_init [(mVar 0)])) (mRet (mC (.int 0))))
def F_first_place : Fn := runDef 1 m_first_place
theorem d_first_place {w : World} {K : PySem.W.Frag} {mg : Str → Option Value} {base : Heap} (M : Md w K mg) : FnG prg w K mg base (L2.CX prg w) 6 M.f_first_place M.fd_first_place ["program"] (SpM K mg 1 F_first_place) :=
  fnM (m := m_first_place) M.U_first_place sc_first_place (fun cdv A outer s H E hgd hr => have Sc := sc_first_place; (ess_cons (es_expr (ev_new (C := "Layout") (k := 4) M.M_Layout ((o_Layout_init M).mono (by decide)) (hr.mono (by decide)) (takes_of rfl rfl rfl rfl) rfl M.g_Layout M.b_Layout_init (ea_cons (ev_var (pv 0)) ea_nil))) (ess_one (es_ret ev_int)))) fun β as r _ h => h
def N_places : List Str := ["program"]
theorem sc_places : FnScope N_places ["program"] (defScope s_places) := ⟨rfl, rfl, rfl, by decide +kernel, rfl, by decide +kernel, by decide +kernel⟩
def m_places : M Fl :=
  (mRet (mUn dRgT (mBin dAdd (mCall F_end_place [(mVar 0)]) (mC (.int 1)))))
def F_places : Fn := runDef 1 m_places
theorem d_places {w : World} {K : PySem.W.Frag} {mg : Str → Option Value} {base : Heap} (M : Md w K mg) : FnG prg w K mg base (L2.CX prg w) 7 M.f_places M.fd_places ["program"] (SpM K mg 1 F_places) :=
  fnM (m := m_places) M.U_places sc_places (fun cdv A outer s H E hgd hr => have Sc := sc_places; (ess_one (es_ret (ev_rgT rfl rfl M.n_tuple rfl M.n_range (ev_bin op_addD op2_add (ev_call (k := 6) ((d_end_place M).mono (by decide)) hgd (hr.mono (by decide)) (takes_of rfl rfl rfl rfl) rfl M.g_end_place M.k_end_place M.b_end_place (ea_cons (ev_var (pv 0)) ea_nil)) ev_int))))) fun β as r _ h => h
def N_law_heard : List Str := ["way", "program", "thing"]
theorem sc_law_heard : FnScope N_law_heard ["way", "program", "thing"] (defScope s_law_heard) := ⟨rfl, rfl, rfl, by decide +kernel, rfl, by decide +kernel, by decide +kernel⟩
def m_law_heard : M Fl :=
  (mTry0 "Nothing" (mThen (mIfS (mIs (mBin cEq (mVar 0) (mC (.int 0)))) (mRet (mCall F_next_steps [(mVar 1), (mVar 2)])) mNx) (mThen (mIfS (mIs (mBin cEq (mVar 0) (mC (.int 1)))) (mRet (mCall F_is_place [(mVar 1), (mVar 2)])) mNx) (mRet (mIf (mIs (mBin cEq (mVar 0) (mC (.int 2)))) (mCall F_first_place [(mVar 1)]) (mIf (mIs (mBin cEq (mVar 0) (mC (.int 3)))) (mCall F_end_place [(mVar 1)]) (mCall F_places [(mVar 1)])))))) (mRet (mC (.str "nothing"))))
def F_law_heard : Fn := runDef 3 m_law_heard
theorem d_law_heard {w : World} {K : PySem.W.Frag} {mg : Str → Option Value} {base : Heap} (M : Md w K mg) : FnG prg w K mg base (L2.CX prg w) 8 M.f_law_heard M.fd_law_heard ["way", "program", "thing"] (SpM K mg 3 F_law_heard) :=
  fnM (m := m_law_heard) M.U_law_heard sc_law_heard (fun cdv A outer s H E hgd hr => have Sc := sc_law_heard; (ess_one (es_try0 rfl rfl rfl (by decide) M.g_Nothing M.e_Nothing (takes_of rfl rfl rfl rfl) (fun W pn xe tk => (ess_cons (es_if (et_cmp (op_eqD (Room.units hr)) op2_D (ev_var (pv 0)) ev_int (nomark _)) (ess_one (es_ret (ev_call (k := 7) ((d_next_steps M).mono (by decide)) hgd (hr.mono (by decide)) tk rfl M.g_next_steps M.k_next_steps M.b_next_steps (ea_cons (ev_var (pv 1)) (ea_cons (ev_var (pv 2)) ea_nil))))) ess_nil) (ess_cons (es_if (et_cmp (op_eqD (Room.units hr)) op2_D (ev_var (pv 0)) ev_int (nomark _)) (ess_one (es_ret (ev_call (k := 7) ((d_is_place M).mono (by decide)) hgd (hr.mono (by decide)) tk rfl M.g_is_place M.k_is_place M.b_is_place (ea_cons (ev_var (pv 1)) (ea_cons (ev_var (pv 2)) ea_nil))))) ess_nil) (ess_one (es_ret (ev_if (et_cmp (op_eqD (Room.units hr)) op2_D (ev_var (pv 0)) ev_int (nomark _)) (ev_call (k := 7) ((d_first_place M).mono (by decide)) hgd (hr.mono (by decide)) tk rfl M.g_first_place M.k_first_place M.b_first_place (ea_cons (ev_var (pv 1)) ea_nil)) (ev_if (et_cmp (op_eqD (Room.units hr)) op2_D (ev_var (pv 0)) ev_int (nomark _)) (ev_call (k := 7) ((d_end_place M).mono (by decide)) hgd (hr.mono (by decide)) tk rfl M.g_end_place M.k_end_place M.b_end_place (ea_cons (ev_var (pv 1)) ea_nil)) (ev_call (k := 7) ((d_places M).mono (by decide)) hgd (hr.mono (by decide)) tk rfl M.g_places M.k_places M.b_places (ea_cons (ev_var (pv 1)) ea_nil))))))))) (fun a oe cls d pn hz hf => (ess_one (es_ret ev_str)))))) fun β as r _ h => h
def N_law_next : List Str := ["laid", "place", "one", "firsts", "later", "word", "goals", "told"]
theorem sc_law_next : FnScope N_law_next ["laid", "place"] (defScope s_law_next) := ⟨rfl, rfl, rfl, by decide +kernel, rfl, by decide +kernel, by decide +kernel⟩
def m_law_next : M Fl :=
  (mThen (mIfS (mIs (mBin cNotInK (mVar 1) (mVar 0))) (mRet (mLst [])) mNx) (mThen (mAsg (.tup [(.nm 2), (.nm 3), (.nm 4)]) (mBin dIxK (mVar 0) (mVar 1))) (mThen (mSet 5 (mBin dIx (mVar 2) (mC (.int 0)))) (mThen (mIfS (mIs (mBin cIn (mVar 5) (mTup [(mC (.str "put")), (mC (.str "make")), (mC (.str "any"))]))) (mRet (mLst [(mTup [(mC .none), (mTup [(mVar 2)]), (mVar 4)])])) mNx) (mThen (mIfS (mIs (mBin cIn (mVar 5) (mTup [(mC (.str "claim")), (mC (.str "never"))]))) (mRet (mLst [(mTup [(mC .none), (mTup []), (mVar 4)])])) mNx) (mThen (mIfS (mIs (mBin cEq (mVar 5) (mC (.str "if")))) (mRet (mLst [(mTup [(mC (.str "same")), (mTup [(mBin dAdd (mTup [(mC (.str "same"))]) (mSl (mVar 2) (some (mC (.int 1))) (some (mC (.int 3)))))]), (mBin dIx (mVar 3) (mC (.int 0)))]), (mTup [(mC (.str "unlike")), (mTup [(mBin dAdd (mTup [(mC (.str "unlike"))]) (mSl (mVar 2) (some (mC (.int 1))) (some (mC (.int 3)))))]), (mBin dIx (mVar 3) (mC (.int 1)))])])) mNx) (mThen (mIfS (mIs (mBin cEq (mVar 5) (mC (.str "while")))) (mThen (mSet 6 (mDict1 (mBin dIx (mVar 2) (mC (.int 1))) (mBin dIx (mVar 3) (mC (.int 0))))) (mRet (mComp [7] (mSeq (mTup [(mC (.str "same")), (mC (.str "unlike"))])) (.nm 7) mYes (mTup [(mVar 7), (mTup [(mBin dAdd (mTup [(mVar 7)]) (mSl (mVar 2) (some (mC (.int 2))) (some (mC (.int 4)))))]), (mGet2 (mVar 6) (mVar 7) (mVar 4))])))) mNx) (mRet (mLst [(mTup [(mC (.int 0)), (mTup []), (mIf (mIs (mBin cEq (mVar 5) (mC (.str "choose")))) (mBin dIx (mVar 3) (mC (.int 0))) (mVar 4))]), (mTup [(mC (.int 1)), (mTup []), (mIf (mIs (mBin cEq (mVar 5) (mC (.str "choose")))) (mBin dIx (mVar 3) (mC (.int 1))) (mBin dIx (mVar 3) (mC (.int 0))))])])))))))))
def F_law_next : Fn := runDef 8 m_law_next
theorem d_law_next {w : World} {K : PySem.W.Frag} {mg : Str → Option Value} {base : Heap} (M : Md w K mg) : FnG prg w K mg base (L2.CX prg w) 1 M.f_law_next M.fd_law_next ["laid", "place"] (SpM K mg 2 F_law_next) :=
  fnM (m := m_law_next) M.U_law_next sc_law_next (fun cdv A outer s H E hgd hr => have Sc := sc_law_next; (ess_cons (es_if (et_cmp (op_notInA (Room.units hr)) op2_notInA (ev_var (pv 1)) (ev_var (pv 0)) rfl) (ess_one (es_ret (ev_lst ea_nil (le_sz 0 (by decide))))) ess_nil) (ess_cons (es_asg (ev_ixK (Room.units hr) (ev_var (pv 0)) (ev_var (pv 1)) fun _ _ => rfl) (eg_tup rfl (egs_cons (eg_name Sc.nd rfl (Or.inr rfl)) (egs_cons (eg_name Sc.nd rfl (Or.inl rfl)) (egs_cons (eg_name Sc.nd rfl (Or.inr rfl)) egs_nil))))) (ess_cons (es_set Sc.nd rfl (Or.inl rfl) (ev_ix ix_seq op2_ix (ev_var (pv 2)) ev_int fun _ _ => rfl)) (ess_cons (es_if (et_cmp (op_inD (Room.units hr)) op2_D (ev_var (pv 5)) (ev_tup (ea_cons ev_str (ea_cons ev_str (ea_cons ev_str ea_nil))) (le_sz 3 (by decide))) rfl) (ess_one (es_ret (ev_lst (ea_cons (ev_tup (ea_cons ev_non (ea_cons (ev_tup (ea_cons (ev_var (pv 2)) ea_nil) (le_sz 1 (by decide))) (ea_cons (ev_var (pv 4)) ea_nil))) (le_sz 3 (by decide))) ea_nil) (le_sz 1 (by decide))))) ess_nil) (ess_cons (es_if (et_cmp (op_inD (Room.units hr)) op2_D (ev_var (pv 5)) (ev_tup (ea_cons ev_str (ea_cons ev_str ea_nil)) (le_sz 2 (by decide))) rfl) (ess_one (es_ret (ev_lst (ea_cons (ev_tup (ea_cons ev_non (ea_cons (ev_tup ea_nil (le_sz 0 (by decide))) (ea_cons (ev_var (pv 4)) ea_nil))) (le_sz 3 (by decide))) ea_nil) (le_sz 1 (by decide))))) ess_nil) (ess_cons (es_if (et_cmp (op_eqD (Room.units hr)) op2_D (ev_var (pv 5)) ev_str (nomark _)) (ess_one (es_ret (ev_lst (ea_cons (ev_tup (ea_cons ev_str (ea_cons (ev_tup (ea_cons (ev_bin op_addD op2_add (ev_tup (ea_cons ev_str ea_nil) (le_sz 1 (by decide))) (ev_slice (ev_var (pv 2)) (eo_some ev_int) (eo_some ev_int))) ea_nil) (le_sz 1 (by decide))) (ea_cons (ev_ix ix_seq op2_ix (ev_var (pv 3)) ev_int fun _ _ => rfl) ea_nil))) (le_sz 3 (by decide))) (ea_cons (ev_tup (ea_cons ev_str (ea_cons (ev_tup (ea_cons (ev_bin op_addD op2_add (ev_tup (ea_cons ev_str ea_nil) (le_sz 1 (by decide))) (ev_slice (ev_var (pv 2)) (eo_some ev_int) (eo_some ev_int))) ea_nil) (le_sz 1 (by decide))) (ea_cons (ev_ix ix_seq op2_ix (ev_var (pv 3)) ev_int fun _ _ => rfl) ea_nil))) (le_sz 3 (by decide))) ea_nil)) (le_sz 2 (by decide))))) ess_nil) (ess_cons (es_if (et_cmp (op_eqD (Room.units hr)) op2_D (ev_var (pv 5)) ev_str (nomark _)) (ess_cons (es_set Sc.nd rfl (Or.inr rfl) (ev_dict1 (ev_ix ix_seq op2_ix (ev_var (pv 2)) ev_int fun _ _ => rfl) (ev_ix ix_seq op2_ix (ev_var (pv 3)) ev_int fun _ _ => rfl))) (ess_one (es_ret (ev_lc (own := [("told", 7)]) rfl Sc.nd (ei_seq (ev_tup (ea_cons ev_str (ea_cons ev_str ea_nil)) (le_sz 2 (by decide)))) (show BlkOk N_law_next (defScope s_law_next) _ _ from ⟨rfl, by decide +kernel, by decide +kernel, by decide +kernel, by decide +kernel⟩) (fun _ _ _ _ _ => (eg_name Sc.nd rfl (Or.inl rfl))) (fun _ _ _ _ _ => pts_none) (fun _ _ _ _ _ => (ev_tup (ea_cons (ev_var (pv 7)) (ea_cons (ev_tup (ea_cons (ev_bin op_addD op2_add (ev_tup (ea_cons (ev_var (pv 7)) ea_nil) (le_sz 1 (by decide))) (ev_slice (ev_var (pv 2)) (eo_some ev_int) (eo_some ev_int))) ea_nil) (le_sz 1 (by decide))) (ea_cons (ev_get2 (Room.units hr) (ev_var (pv 6)) (ev_var (pv 7)) (ev_var (pv 4)) ⟨rfl, rfl, rfl, rfl⟩) ea_nil))) (le_sz 3 (by decide)))))))) ess_nil) (ess_one (es_ret (ev_lst (ea_cons (ev_tup (ea_cons ev_int (ea_cons (ev_tup ea_nil (le_sz 0 (by decide))) (ea_cons (ev_if (et_cmp (op_eqD (Room.units hr)) op2_D (ev_var (pv 5)) ev_str (nomark _)) (ev_ix ix_seq op2_ix (ev_var (pv 3)) ev_int fun _ _ => rfl) (ev_var (pv 4))) ea_nil))) (le_sz 3 (by decide))) (ea_cons (ev_tup (ea_cons ev_int (ea_cons (ev_tup ea_nil (le_sz 0 (by decide))) (ea_cons (ev_if (et_cmp (op_eqD (Room.units hr)) op2_D (ev_var (pv 5)) ev_str (nomark _)) (ev_ix ix_seq op2_ix (ev_var (pv 3)) ev_int fun _ _ => rfl) (ev_ix ix_seq op2_ix (ev_var (pv 3)) ev_int fun _ _ => rfl)) ea_nil))) (le_sz 3 (by decide))) ea_nil)) (le_sz 2 (by decide))))))))))))) fun β as r _ h => h
def N_law : List Str := ["script", "bag", "turn", "program", "laid", "end", "place", "thing", "other", "way"]
theorem sc_law : FnScope N_law ["script"] (defScope s_law) := ⟨rfl, rfl, rfl, by decide +kernel, rfl, by decide +kernel, by decide +kernel⟩
def m_bag : M Rv := (mCall F_law_bag [(mVar 0)])
def m_l0 : M Fl :=
  (mSet 3 (mIf (mIs (mBin cGt (mVar 2) (mC (.int 0)))) (mCall F_law_program [(mVar 1), (mC (.int 3))]) (mTup [(mTup []), (mTup [(mC (.str "nil"))]), (mTup []), (mTup []), (mTup []), (mTup [])])))
def m_l1 : M Fl :=
  (mPar 4 5 (mCall F_law_places [(mVar 3)]) (mCall F_law_size [(mBin dIx (mVar 3) (mC (.int 5)))]))
def m_l2 : M Fl :=
  (mIfS (mNotT (mIs (mCall F_alike [(mComp [9] (mSeq (mTup [(mC (.int 2)), (mC (.int 3)), (mC (.int 4))])) (.nm 9) mYes (mCall F_law_heard [(mVar 9), (mVar 3), (mC .none)])), (mLst [(mC (.int 0)), (mVar 5), (mUn dRgT (mBin dAdd (mVar 5) (mC (.int 1))))])]))) (mRet (mC (.bool false))) mNx)
def m_l3 : M Fl :=
  (mFor (mRng1 (mBin dAdd (mVar 5) (mC (.int 1)))) (.nm 6) (mIfS (mOrT (mNotT (mIs (mCall F_alike [(mCall F_law_heard [(mC (.int 0)), (mVar 3), (mVar 6)]), (mUn dTuple (mCall F_law_next [(mVar 4), (mVar 6)]))]))) (mIs (mBin cNotB (mCall F_law_heard [(mC (.int 1)), (mVar 3), (mVar 6)]) (mC (.bool true))))) (mRet (mC (.bool false))) mNx))
def m_l4 : M Fl :=
  (mFor (mSeq (mTup [(mC (.int (-1))), (mBin dAdd (mVar 5) (mC (.int 1))), (mC .none), (mC (.str "0")), (mTup [(mC (.int 0))])])) (.nm 7) (mIfS (mOrT (mIs (mBin cNe (mCall F_law_heard [(mC (.int 0)), (mVar 3), (mVar 7)]) (mC (.str "nothing")))) (mIs (mBin cNotB (mCall F_law_heard [(mC (.int 1)), (mVar 3), (mVar 7)]) (mC (.bool false))))) (mRet (mC (.bool false))) mNx))
def m_l5 : M Fl :=
  (mIfS (mOrT (mIs (mBin cNe (mCall F_law_heard [(mC (.int 0)), (mVar 3), (mC (.bool true))]) (mC (.str "nothing")))) (mIs (mBin cNotB (mCall F_law_heard [(mC (.int 1)), (mVar 3), (mC (.bool true))]) (mC (.bool false))))) (mRet (mC (.bool false))) mNx)
def m_l6 : M Fl :=
  (mSet 8 (mBin dAdd (mSl (mVar 3) none (some (mC (.int 4)))) (mTup [(mTup [(mTup [(mC (.str "p")), (mTup []), (mTup []), (mTup []), (mTup [])])]), (mBin dIx (mVar 3) (mC (.int 5)))])))
def m_l7 : M Fl :=
  (mIfS (mIs (mBin cNe (mComp [9] (mRng1 (mC (.int 5))) (.nm 9) (mIs (mBin cNe (mCall F_law_heard [(mVar 9), (mVar 8), (mC (.int 0))]) (mC (.str "nothing")))) (mVar 9)) (mLst []))) (mRet (mC (.bool false))) mNx)
def m_lap : M Fl := (mThen m_l0 (mThen m_l1 (mThen m_l2 (mThen m_l3 (mThen m_l4 (mThen m_l5 (mThen m_l6 m_l7)))))))
def m_law : M Fl :=
  (mThen (mFor (mRng1 (mC (.int 9))) (.nm 2) m_lap) (mRet (mC (.bool true))))
theorem d_law {w : World} {K : PySem.W.Frag} {mg : Str → Option Value} {base : Heap} (M : Md w K mg)
    (hf : ∀ ns : List Int, ns.length ≤ 63 → ∃ s b0 b1 b2 cs s2, m_bag ⟨begin N_law.length [.dat (.list (ns.map .int))], ⟨0, 0, 0, [], []⟩⟩ = some (s, .ok (.fresh [.int b0, .int b1, .int b2, .list (cs.map .int)])) ∧
      m_law ⟨s.ρ.set 1 .bag, ⟨b0, b1, b2, cs, s.β.os⟩⟩ = some (s2, .ok (.rt (.dat (.bool true))))) : FnG prg w K mg base (L2.CX prg w) 15 M.f_law M.fd_law ["script"] (spLaw 63 K) :=
  fnLaw (i := 1) (mc := m_bag) (mr := m_law) M.U_law sc_law rfl (fun cdv A outer s H E hcd hgd hr => have Sc := sc_law; ⟨_, ps_set Sc.nd rfl (Or.inl rfl) (ev_call (k := 14) ((d_law_bag M).mono (by decide)) hgd (hr.mono (by decide)) (takes_of rfl rfl rfl rfl) rfl M.g_law_bag M.k_law_bag M.b_law_bag (ea_cons (ev_var (pv 0)) ea_nil)), (ess_cons (es_for (passes_of rfl) rfl (ei_rng1 rfl M.n_range ev_int) (eg_name Sc.nd rfl (Or.inl rfl)) (ess_cons (es_set Sc.nd rfl (Or.inr rfl) (ev_if (et_cmp (op_gtD (Room.units hr)) op2_D (ev_var (pv 2)) ev_int (nomark _)) (ev_call (k := 14) ((d_law_program M).mono (by decide)) hgd (hr.mono (by decide)) (takes_of rfl rfl rfl rfl) rfl M.g_law_program M.k_law_program M.b_law_program (ea_cons (ev_var (pv 1)) (ea_cons ev_int ea_nil))) (ev_tup (ea_cons (ev_tup ea_nil (le_sz 0 (by decide))) (ea_cons (ev_tup (ea_cons ev_str ea_nil) (le_sz 1 (by decide))) (ea_cons (ev_tup ea_nil (le_sz 0 (by decide))) (ea_cons (ev_tup ea_nil (le_sz 0 (by decide))) (ea_cons (ev_tup ea_nil (le_sz 0 (by decide))) (ea_cons (ev_tup ea_nil (le_sz 0 (by decide))) ea_nil)))))) (le_sz 6 (by decide))))) (ess_cons (es_par rfl Sc.nd rfl rfl (by decide) rfl rfl (ev_call (k := 14) ((d_law_places M).mono (by decide)) hgd (hr.mono (by decide)) (takes_of rfl rfl rfl rfl) rfl M.g_law_places M.k_law_places M.b_law_places (ea_cons (ev_var (pv 3)) ea_nil)) (ev_call (k := 14) ((d_law_size M).mono (by decide)) hgd (hr.mono (by decide)) (takes_of rfl rfl rfl rfl) rfl M.g_law_size M.k_law_size M.b_law_size (ea_cons (ev_ix ix_seq op2_ix (ev_var (pv 3)) ev_int fun _ _ => rfl) ea_nil)) rfl) (ess_cons (es_if (et_not (et_val (ev_call (k := 14) ((d_law_alike M).mono (by decide)) hgd (hr.mono (by decide)) (takes_of rfl rfl rfl rfl) rfl M.g_law_alike M.k_law_alike M.b_law_alike (ea_cons (ev_lc (own := [("way", 9)]) rfl Sc.nd (ei_seq (ev_tup (ea_cons ev_int (ea_cons ev_int (ea_cons ev_int ea_nil))) (le_sz 3 (by decide)))) (show BlkOk N_law (defScope s_law) _ _ from ⟨rfl, by decide +kernel, by decide +kernel, by decide +kernel, by decide +kernel⟩) (fun _ _ _ _ _ => (eg_name Sc.nd rfl (Or.inl rfl))) (fun _ _ _ _ _ => pts_none) (fun _ _ _ _ _ => (ev_call (k := 14) ((d_law_heard M).mono (by decide)) hgd (hr.mono (by decide)) takes0 rfl M.g_law_heard M.k_law_heard M.b_law_heard (ea_cons (ev_var (pv 9)) (ea_cons (ev_var (pv 3)) (ea_cons ev_non ea_nil)))))) (ea_cons (ev_lst (ea_cons ev_int (ea_cons (ev_var (pv 5)) (ea_cons (ev_rgT rfl rfl M.n_tuple rfl M.n_range (ev_bin op_addD op2_add (ev_var (pv 5)) ev_int)) ea_nil))) (le_sz 3 (by decide))) ea_nil))))) (ess_one (es_ret ev_bl)) ess_nil) (ess_cons (es_for (passes_of rfl) rfl (ei_rng1 rfl M.n_range (ev_bin op_addD op2_add (ev_var (pv 5)) ev_int)) (eg_name Sc.nd rfl (Or.inl rfl)) (ess_one (es_if (et_w (ew_or (et_not (et_val (ev_call (k := 14) ((d_law_alike M).mono (by decide)) hgd (hr.mono (by decide)) (takes_of rfl rfl rfl rfl) rfl M.g_law_alike M.k_law_alike M.b_law_alike (ea_cons (ev_call (k := 14) ((d_law_heard M).mono (by decide)) hgd (hr.mono (by decide)) (takes_of rfl rfl rfl rfl) rfl M.g_law_heard M.k_law_heard M.b_law_heard (ea_cons ev_int (ea_cons (ev_var (pv 3)) (ea_cons (ev_var (pv 6)) ea_nil)))) (ea_cons (ev_t1 call_tuple_of o1_tuple rfl M.n_tuple (by decide +kernel) (ev_call (k := 14) ((d_law_next M).mono (by decide)) hgd (hr.mono (by decide)) (takes_of rfl rfl rfl rfl) rfl M.g_law_next M.k_law_next M.b_law_next (ea_cons (ev_var (pv 4)) (ea_cons (ev_var (pv 6)) ea_nil)))) ea_nil))))) (ew_or1 (et_cmp op_notBl op2_notB (ev_call (k := 14) ((d_law_heard M).mono (by decide)) hgd (hr.mono (by decide)) (takes_of rfl rfl rfl rfl) rfl M.g_law_heard M.k_law_heard M.b_law_heard (ea_cons ev_int (ea_cons (ev_var (pv 3)) (ea_cons (ev_var (pv 6)) ea_nil)))) ev_bl (nomark _))))) (ess_one (es_ret ev_bl)) ess_nil))) (ess_cons (es_for (passes_of rfl) rfl (ei_seq (ev_tup (ea_cons ev_neg (ea_cons (ev_bin op_addD op2_add (ev_var (pv 5)) ev_int) (ea_cons ev_non (ea_cons ev_str (ea_cons (ev_tup (ea_cons ev_int ea_nil) (le_sz 1 (by decide))) ea_nil))))) (le_sz 5 (by decide)))) (eg_name Sc.nd rfl (Or.inl rfl)) (ess_one (es_if (et_w (ew_or (et_cmp (op_neD (Room.units hr)) op2_D (ev_call (k := 14) ((d_law_heard M).mono (by decide)) hgd (hr.mono (by decide)) (takes_of rfl rfl rfl rfl) rfl M.g_law_heard M.k_law_heard M.b_law_heard (ea_cons ev_int (ea_cons (ev_var (pv 3)) (ea_cons (ev_var (pv 7)) ea_nil)))) ev_str (nomark _)) (ew_or1 (et_cmp op_notBl op2_notB (ev_call (k := 14) ((d_law_heard M).mono (by decide)) hgd (hr.mono (by decide)) (takes_of rfl rfl rfl rfl) rfl M.g_law_heard M.k_law_heard M.b_law_heard (ea_cons ev_int (ea_cons (ev_var (pv 3)) (ea_cons (ev_var (pv 7)) ea_nil)))) ev_bl (nomark _))))) (ess_one (es_ret ev_bl)) ess_nil))) (ess_cons (es_if (et_w (ew_or (et_cmp (op_neD (Room.units hr)) op2_D (ev_call (k := 14) ((d_law_heard M).mono (by decide)) hgd (hr.mono (by decide)) (takes_of rfl rfl rfl rfl) rfl M.g_law_heard M.k_law_heard M.b_law_heard (ea_cons ev_int (ea_cons (ev_var (pv 3)) (ea_cons ev_bl ea_nil)))) ev_str (nomark _)) (ew_or1 (et_cmp op_notBl op2_notB (ev_call (k := 14) ((d_law_heard M).mono (by decide)) hgd (hr.mono (by decide)) (takes_of rfl rfl rfl rfl) rfl M.g_law_heard M.k_law_heard M.b_law_heard (ea_cons ev_int (ea_cons (ev_var (pv 3)) (ea_cons ev_bl ea_nil)))) ev_bl (nomark _))))) (ess_one (es_ret ev_bl)) ess_nil) (ess_cons (es_set Sc.nd rfl (Or.inr rfl) (ev_bin op_addD op2_add (ev_slice (ev_var (pv 3)) eo_none (eo_some ev_int)) (ev_tup (ea_cons (ev_tup (ea_cons (ev_tup (ea_cons ev_str (ea_cons (ev_tup ea_nil (le_sz 0 (by decide))) (ea_cons (ev_tup ea_nil (le_sz 0 (by decide))) (ea_cons (ev_tup ea_nil (le_sz 0 (by decide))) (ea_cons (ev_tup ea_nil (le_sz 0 (by decide))) ea_nil))))) (le_sz 5 (by decide))) ea_nil) (le_sz 1 (by decide))) (ea_cons (ev_ix ix_seq op2_ix (ev_var (pv 3)) ev_int fun _ _ => rfl) ea_nil)) (le_sz 2 (by decide))))) (ess_one (es_if (et_cmp (op_neD (Room.units hr)) op2_D (ev_lc (own := [("way", 9)]) rfl Sc.nd (ei_rng1 rfl M.n_range ev_int) (show BlkOk N_law (defScope s_law) _ _ from ⟨rfl, by decide +kernel, by decide +kernel, by decide +kernel, by decide +kernel⟩) (fun _ _ _ _ _ => (eg_name Sc.nd rfl (Or.inl rfl))) (fun _ _ _ _ _ => (pts_m (et_cmp (op_neD (Room.units hr)) op2_D (ev_call (k := 14) ((d_law_heard M).mono (by decide)) hgd (hr.mono (by decide)) takes0 rfl M.g_law_heard M.k_law_heard M.b_law_heard (ea_cons (ev_var (pv 9)) (ea_cons (ev_var (pv 8)) (ea_cons ev_int ea_nil)))) ev_str (nomark _)))) (fun _ _ _ _ _ => (ev_var (pv 9)))) (ev_lst ea_nil (le_sz 0 (by decide))) (nomark _)) (ess_one (es_ret ev_bl)) ess_nil)))))))))) (ess_one (es_ret ev_bl)))⟩) hf
end Pu
/-! Pu29: the head's facts where some defs make lambdas: their tables of code objects are empty and left out of K. -/
namespace Pu
open PySem PySem.Spec PyProof.Rows L2
def tabsL (g : Addr → Option Obj) (K : PySem.W.Frag) : Bool := (csK K).all fun p => PySem.W.codeHdIn K p.1 p.2 && (match g p.2 with
  | some o => He.emptyTab o
  | none => false)
abbrev AlL : Type := AlP × Bool
def obsL (file : Str) (n : Nat) (fa : List He.Fa) (fn : List He.DefD) (xs : List InD) (g : Addr → Option Obj) : AlL :=
  (obsP file fa fn xs (He.frT g (cStatics :: He.asD g n)), tabsL g (He.frT g (cStatics :: He.asD g n)))
theorem tabsL_ok {h : Heap} {as : List Addr} (e : tabsL h.get? (He.frT h.get? as) = true) : TabFacts (He.frT h.get? as) h := by
  have key : ∀ p ∈ csK (He.frT h.get? as), PySem.W.codeHdIn (He.frT h.get? as) p.1 p.2 = true ∧ ∃ o, h.get? p.2 = some o ∧ He.emptyTab o = true := fun p hp => by
    have z := List.all_eq_true.mp e p hp
    rw [Bool.and_eq_true] at z
    refine ⟨z.1, ?_⟩
    have z2 := z.2
    cases q : h.get? p.2 with
    | none => rw [q] at z2; cases z2
    | some o =>
      rw [q] at z2
      exact ⟨o, rfl, z2⟩
  refine ⟨fun p hp => PySem.W.codeHd_of_K He.frT_in (key p hp).1, fun p hp => ?_, fun p hp => ?_⟩
  · obtain ⟨_, o, q, z⟩ := key p hp
    exact He.frT_none q z
  · obtain ⟨_, o, q, z⟩ := key p hp
    rw [q, He.emptyTab_eq z]
def hookL (file : Str) (n : Nat) (fa : List He.Fa) (fn : List He.DefD) (xs : List InD) : PySem.W.Hook where
  α := AlL
  obs := fun s => obsL file n fa fn xs s.heap.get?
  val := fun _ => (valP fn xs, true)
  says := fun _ h => ∃ K : PySem.W.Frag, K.In h ∧ obsP file fa fn xs K = valP fn xs ∧ TabFacts K h
  of := fun _ s e => ⟨_, He.frT_in, congrArg Prod.fst e, tabsL_ok (congrArg Prod.snd e)⟩
  keeps := fun _ _ _ ⟨K, hK, c, T⟩ k => ⟨K, PySem.W.Frag.In.keeps hK k, c, fun p hp => (T.hd p hp).keeps k, T.out, fun p hp => k _ _ (T.empty p hp)⟩
theorem obsL_eq {file : Str} {n : Nat} {fa : List He.Fa} {fn : List He.DefD} {xs : List InD} {g : Addr → Option Obj} {s : Shared} (h : ∀ a, g a = s.heap.get? a) : obsL file n fa fn xs g = (hookL file n fa fn xs).obs s := by
  (have e : g = s.heap.get? := funext h)
  rw [e] <;> rfl
end Pu
/-! Pu38: the head's facts with dicts of the module (text keys, text values). -/
namespace Pu
open PySem PySem.Spec PyProof.Rows L2
abbrev TabD : Type := Str × List (Str × Str)
def tabB (K : PySem.W.Frag) (t : TabD) : Bool := t.2.all fun p => match PySem.W.nsIn K (He.ga K t.1) p.1 with
  | some (some (.str z _)) => decide (z = p.2)
  | _ => false
theorem tabB_ok {K : PySem.W.Frag} {t : TabD} (h : tabB K t = true) : ∀ p ∈ t.2, ∃ u, PySem.W.nsIn K (He.ga K t.1) p.1 = some (some (Value.str p.2 u)) := fun p hp => by
  have z := List.all_eq_true.mp h p hp
  cases e : PySem.W.nsIn K (He.ga K t.1) p.1 with
  | none => simp only [e] at z; cases z
  | some r =>
    simp only [e] at z
    cases r with
    | none => cases z
    | some v =>
      cases v with
      | str y u =>
        have q : y = p.2 := of_decide_eq_true z
        subst q
        exact ⟨u, rfl⟩
      | _ => cases z
abbrev AlM : Type := AlL × (List (Option (List (Option (Str × Int)))) × Bool)
def obsMK (ts : List TabD) (K : PySem.W.Frag) : List (Option (List (Option (Str × Int)))) × Bool := (ts.map fun t => He.dicW K (He.ga K t.1), ts.all fun t => tabB K t)
def valM (ts : List TabD) (w : World) : List (Option (List (Option (Str × Int)))) × Bool := (ts.map fun t => some (He.keysIn w.params (t.2.map (·.1))), true)
def obsM (file : Str) (n : Nat) (fa : List He.Fa) (fn : List He.DefD) (xs : List InD) (ts : List TabD) (g : Addr → Option Obj) : AlM :=
  (obsL file n fa fn xs g, obsMK ts (He.frT g (cStatics :: He.asD g n)))
def hookM (file : Str) (n : Nat) (fa : List He.Fa) (fn : List He.DefD) (xs : List InD) (ts : List TabD) : PySem.W.Hook where
  α := AlM
  obs := fun s => obsM file n fa fn xs ts s.heap.get?
  val := fun w => ((valP fn xs, true), valM ts w)
  says := fun w h => ∃ K : PySem.W.Frag, K.In h ∧ (obsP file fa fn xs K = valP fn xs ∧ obsMK ts K = valM ts w) ∧ TabFacts K h
  of := fun _ s e => ⟨_, He.frT_in, ⟨congrArg (fun z : AlM => z.1.1) e, congrArg (fun z : AlM => z.2) e⟩, tabsL_ok (congrArg (fun z : AlM => z.1.2) e)⟩
  keeps := fun _ _ _ ⟨K, hK, c, T⟩ k => ⟨K, PySem.W.Frag.In.keeps hK k, c, fun p hp => (T.hd p hp).keeps k, T.out, fun p hp => k _ _ (T.empty p hp)⟩
theorem obsM_eq {file : Str} {n : Nat} {fa : List He.Fa} {fn : List He.DefD} {xs : List InD} {ts : List TabD} {g : Addr → Option Obj} {s : Shared} (h : ∀ a, g a = s.heap.get? a) : obsM file n fa fn xs ts g = (hookM file n fa fn xs ts).obs s := by
  (have e : g = s.heap.get? := funext h)
  rw [e] <;> rfl
theorem saysTab {ts : List TabD} {w : World} {K : PySem.W.Frag} {mg : Str → Option Value} (c : obsMK ts K = valM ts w) (i : Nat) {t : TabD} (h : ts[i]? = some t) (hg : mg t.1 = some (.ref (He.ga K t.1))) : TabK K w mg t.1 t.2 := by
  have e : ts.map (fun t => He.dicW K (He.ga K t.1)) = ts.map fun t => some (He.keysIn w.params (t.2.map (·.1))) := congrArg Prod.fst c
  have e2 : (ts.map fun t => He.dicW K (He.ga K t.1))[i]? = (ts.map fun t => some (He.keysIn w.params (t.2.map (·.1))))[i]? := by rw [e]
  (rw [List.getElem?_map, List.getElem?_map, h] at e2)
  obtain ⟨es, n, D⟩ := He.dicW_ok (w := w) (Option.some.inj e2)
  have c2 : (ts.all fun t => tabB K t) = true := congrArg Prod.snd c
  exact ⟨He.ga K t.1, es, n, hg, D, tabB_ok (List.all_eq_true.mp c2 t (List.mem_of_getElem? h))⟩
/-- a def of the head (a method, too), in the layer's words -/
theorem funOfQ {K : PySem.W.Frag} {x q : Str} {st : Stmt} {f : Addr} {fd : FuncData} (F : FunD K x q (defArgs st) (defBody st) (defScope st) [] [] f fd) : Fun K x q st f fd := by
  obtain ⟨⟨oc, od, dV, kV, doc, pm, an, cdv, ct, osl, e1, lk, hcd, hD, _⟩, kp⟩ := F
  (rcases hD with ⟨_, rfl⟩ | ⟨e, _⟩)
  · exact ⟨⟨oc, od, kV, doc, pm, an, cdv, ct, osl, e1, lk, hcd⟩, kp⟩
  · exact absurd rfl e
end Pu
/-! S1 (k03): small steps of meanings; the draw; sizes. -/
namespace Pu
open PySem PySem.Spec PyProof.Rows L2
abbrev ti (xs : List Int) : D := .tuple (xs.map .int)
inductive Sg where
  | f | g | h
def dSg : Sg → D
  | .f => .tuple [.str "f", .int 1, .str "told"]
  | .g => .tuple [.str "g", .int 2, .str "either"]
  | .h => .tuple [.str "h", .int 2, .str "told"]
def Sg.parts : Sg → Nat
  | .f => 1
  | _ => 2
def Sg.ei : Sg → Bool
  | .g => true
  | _ => false
structure Pg where
  sg : List Sg
  vs : List D
  ins : List D
  body : D
def dP (p : Pg) : D := .tuple [.tuple (p.sg.map dSg), .tuple [.str "nil", .str "yes"], .tuple p.vs, .tuple p.ins, .tuple [], p.body]
theorem fn_ok {n : Nat} {m : M Fl} {β : Bag} {as : List Ar} {s : S} {d : D} (h : m ⟨begin n as, β⟩ = some (s, .ok (.rt (.dat d)))) : runDef n m β as = some (s.β, .ok (.dat d)) := by
  unfold runDef; rw [h]; rfl
theorem call_ok {F : Fn} {ms : List (M Rv)} {s s1 : S} {as : List Ar} {β : Bag} {r : Rs} (h : mArgs ms s = some (s1, .ok as)) (e : F s1.β as = some (β, .ok r)) : mCall F ms s = some ({ s1 with β := β }, .ok r.rv) := by
  unfold mCall M.bind; rw [h]; simp only [e]
theorem call_err {F : Fn} {ms : List (M Rv)} {s s1 : S} {as : List Ar} {β : Bag} {r : Exn} (h : mArgs ms s = some (s1, .ok as)) (e : F s1.β as = some (β, .error r)) : mCall F ms s = some ({ s1 with β := β }, .error r) := by
  unfold mCall M.bind; rw [h]; simp only [e]
theorem loopC_map {α : Type} {vs : List Nat} {p : D → M Unit} {me : M Rv} {s0 : S} {inj : α → D} {g : α → D} : ∀ (xs : List α) (acc : List D),
    (∀ x ∈ xs, ∃ s2 s3, p (inj x) s0 = some (s2, .ok ()) ∧ me s2 = some (s3, .ok (.dat (g x))) ∧ ({ s3 with ρ := wipeS s3.ρ vs } : S) = s0) → acc.length + xs.length ≤ sizeLine →
    loopC vs p mYes me (xs.map inj) acc s0 = some (s0, .ok (acc ++ xs.map g))
  | [], acc, _, _ => by simp [loopC, M.pure]
  | x :: xs, acc, h, hl => by
    obtain ⟨s2, s3, h1, h2, h3⟩ := h x (by simp)
    have ih := loopC_map xs (acc ++ [g x]) (fun y hy => h y (by simp [hy])) (by simp at hl ⊢; omega)
    (rw [List.map_cons, List.map_cons])
    have e1 : calm mYes s2 = some (s2, .ok true) := rfl
    have e2 : calm me s2 = some (s3, .ok (.dat (g x))) := by unfold calm; rw [h2]
    unfold loopC
    unfold M.bind
    simp only [h1, e1, e2, if_true, retain]
    rw [if_pos (by simp at hl; omega), h3, ih]
    simp
theorem comp_ok {α : Type} (xs : List α) (inj g : α → D) {vs : List Nat} {mi : M (List D)} {t : Tg} {me : M Rv} {s s1 : S} (hi : mi s = some (s1, .ok (xs.map inj))) (hf : freeS s1.ρ vs = true)
    (step : ∀ x ∈ xs, ∃ s2 s3, t.put (inj x) { s1 with ρ := wipeS s1.ρ vs } = some (s2, .ok ()) ∧ me s2 = some (s3, .ok (.dat (g x))) ∧ ({ s3 with ρ := wipeS s3.ρ vs } : S) = { s1 with ρ := wipeS s1.ρ vs })
    (hl : xs.length ≤ sizeLine) (hb : backS s1.ρ (wipeS s1.ρ vs) vs = s1.ρ) : mComp vs mi t mYes me s = some (s1, .ok (.fresh (xs.map g))) := by
  unfold mComp M.bind
  rw [hi]
  simp only [hf, if_true]
  rw [loopC_map xs [] step (by simpa using hl)]
  simp only [hb, List.nil_append]
theorem bind_ok {α β : Type} {m : M α} {f : α → M β} {s s' : S} {a : α} (h : m s = some (s', .ok a)) : M.bind m f s = f a s' := by unfold M.bind; rw [h]
theorem then_ok {m n : M Fl} {s s' : S} (h : m s = some (s', .ok .nx)) : mThen m n s = n s' := by unfold mThen M.bind; rw [h]
theorem then_rt {m n : M Fl} {s s' : S} {r : Rv} (h : m s = some (s', .ok (.rt r))) : mThen m n s = some (s', .ok (.rt r)) := by unfold mThen M.bind; rw [h]; rfl
theorem then_err {m n : M Fl} {s s' : S} {r : Exn} (h : m s = some (s', .error r)) : mThen m n s = some (s', .error r) := by unfold mThen M.bind; rw [h]
theorem ifs_ok {t : M Bool} {m n : M Fl} {s s' : S} {b : Bool} (h : t s = some (s', .ok b)) : mIfS t m n s = (if b then m else n) s' := by unfold mIfS M.bind; rw [h]
theorem if_ok {t : M Bool} {m n : M Rv} {s s' : S} {b : Bool} (h : t s = some (s', .ok b)) : mIf t m n s = (if b then m else n) s' := by unfold mIf M.bind; rw [h]
theorem set_ok {i : Nat} {m : M Rv} {s s' : S} {d : D} (h : m s = some (s', .ok (.dat d))) : mSet i m s = some ({ s' with ρ := s'.ρ.set i (.dat d) }, .ok .nx) := by unfold mSet M.bind; rw [h]; rfl
theorem setF_ok {i : Nat} {m : M Rv} {s s' : S} {d : List D} (h : m s = some (s', .ok (.fresh d))) : mSet i m s = some ({ s' with ρ := s'.ρ.set i (.own d) }, .ok .nx) := by unfold mSet M.bind; rw [h]; rfl
theorem bin_ok {f : D → D → Option Rs} {m1 m2 : M Rv} {s s1 s2 : S} {r1 r2 : Rv} {d1 d2 : D} {res : Rs} (h1 : m1 s = some (s1, .ok r1)) (h2 : m2 s1 = some (s2, .ok r2)) (p1 : peek (settle r1) s2 = some (s2, .ok d1)) (p2 : peek r2 s2 = some (s2, .ok d2)) (hf : f d1 d2 = some res) :
    mBin f m1 m2 s = some (s2, .ok res.rv) := by unfold mBin M.bind; simp only [h1, h2, p1, p2, hf, M.lift, M.pure, Option.map_some]
theorem binD {f : D → D → Option Rs} {m1 m2 : M Rv} {s s1 s2 : S} {d1 d2 d : D} (h1 : m1 s = some (s1, .ok (.dat d1))) (h2 : m2 s1 = some (s2, .ok (.dat d2))) (hf : f d1 d2 = some (.dat d)) : mBin f m1 m2 s = some (s2, .ok (.dat d)) := bin_ok h1 h2 rfl rfl hf
theorem un_ok {f : D → Option Rs} {m : M Rv} {s s1 : S} {r : Rv} {d : D} {res : Rs} (h1 : m s = some (s1, .ok r)) (p1 : peek r s1 = some (s1, .ok d)) (hf : f d = some res) : mUn f m s = some (s1, .ok res.rv) := by unfold mUn M.bind; simp only [h1, p1, hf, M.lift, M.pure, Option.map_some]
theorem unD {f : D → Option Rs} {m : M Rv} {s s1 : S} {d1 d : D} (h1 : m s = some (s1, .ok (.dat d1))) (hf : f d1 = some (.dat d)) : mUn f m s = some (s1, .ok (.dat d)) := un_ok h1 rfl hf
theorem isD {m : M Rv} {s s1 : S} {b : Bool} (h : m s = some (s1, .ok (.dat (.bool b)))) : mIs m s = some (s1, .ok b) := by unfold mIs M.bind; rw [h]; rfl
theorem not_ok {m : M Bool} {s s1 : S} {b : Bool} (h : m s = some (s1, .ok b)) : mNotT m s = some (s1, .ok (!b)) := by unfold mNotT M.bind; rw [h]; rfl
theorem or_t {m n : M Bool} {s s1 : S} (h : m s = some (s1, .ok true)) : mOrT m n s = some (s1, .ok true) := by unfold mOrT M.bind; rw [h]; rfl
theorem or_f {m n : M Bool} {s s1 : S} (h : m s = some (s1, .ok false)) : mOrT m n s = n s1 := by unfold mOrT M.bind; rw [h]; rfl
theorem and_t {m n : M Bool} {s s1 : S} (h : m s = some (s1, .ok true)) : mAndT m n s = n s1 := by unfold mAndT M.bind; rw [h]; rfl
theorem and_f {m n : M Bool} {s s1 : S} (h : m s = some (s1, .ok false)) : mAndT m n s = some (s1, .ok false) := by unfold mAndT M.bind; rw [h]; rfl
theorem or_ok {m n : M Bool} {s : S} {a b : Bool} (h : m s = some (s, .ok a)) (k : a = false → n s = some (s, .ok b)) : mOrT m n s = some (s, .ok (a || b)) := by
  cases a with
  | true => exact or_t h
  | false => exact (or_f h).trans (k rfl)
theorem ret_ok {m : M Rv} {s s' : S} {r : Rv} (h : m s = some (s', .ok r)) : mRet m s = some (s', .ok (.rt r)) := by unfold mRet M.bind; rw [h]; rfl
theorem andV_t {m n : M Rv} {s s1 : S} (h : m s = some (s1, .ok (.dat (.bool true)))) : mAndV m n s = n s1 := by unfold mAndV M.bind; rw [h]
theorem andV_f {m n : M Rv} {s s1 : S} (h : m s = some (s1, .ok (.dat (.bool false)))) : mAndV m n s = some (s1, .ok (.dat (.bool false))) := by unfold mAndV M.bind; rw [h]; rfl
theorem orV_t {m n : M Rv} {s s1 : S} (h : m s = some (s1, .ok (.dat (.bool true)))) : mOrV m n s = some (s1, .ok (.dat (.bool true))) := by unfold mOrV M.bind; rw [h]; rfl
theorem orV_f {m n : M Rv} {s s1 : S} (h : m s = some (s1, .ok (.dat (.bool false)))) : mOrV m n s = n s1 := by unfold mOrV M.bind; rw [h]
theorem andV_ok {m n : M Rv} {s : S} {a b : Bool} (h : m s = some (s, .ok (.dat (.bool a)))) (k : a = true → n s = some (s, .ok (.dat (.bool b)))) : mAndV m n s = some (s, .ok (.dat (.bool (a && b)))) := by
  cases a with
  | false => exact andV_f h
  | true => exact (andV_t h).trans (k rfl)
theorem orV_ok {m n : M Rv} {s : S} {a b : Bool} (h : m s = some (s, .ok (.dat (.bool a)))) (k : a = false → n s = some (s, .ok (.dat (.bool b)))) : mOrV m n s = some (s, .ok (.dat (.bool (a || b)))) := by
  cases a with
  | true => exact orV_t h
  | false => exact (orV_f h).trans (k rfl)
theorem guard_ok {t : M Bool} {n : M Fl} {s : S} {a b : Bool} (h : t s = some (s, .ok a)) (k : a = false → n s = some (s, .ok (.rt (.dat (.bool b))))) : mThen (mIfS t (mRet (mC (.bool false))) mNx) n s = some (s, .ok (.rt (.dat (.bool (!a && b))))) := by
  cases a with
  | true => exact then_rt (by rw [ifs_ok h]; rfl)
  | false => exact (then_ok (by rw [ifs_ok h]; rfl)).trans (k rfl)
theorem callD {F : Fn} {ms : List (M Rv)} {s : S} {ρ : List Sl} {β β' : Bag} {as : List Ar} {d : D} (h : mArgs ms s = some (⟨ρ, β⟩, .ok as)) (e : F β as = some (β', .ok (.dat d))) : mCall F ms s = some (⟨ρ, β'⟩, .ok (.dat d)) := call_ok h e
theorem callF {F : Fn} {ms : List (M Rv)} {s : S} {ρ : List Sl} {β β' : Bag} {as : List Ar} {d : List D} (h : mArgs ms s = some (⟨ρ, β⟩, .ok as)) (e : F β as = some (β', .ok (.fresh d))) : mCall F ms s = some (⟨ρ, β'⟩, .ok (.fresh d)) := call_ok h e
theorem fn_at {n : Nat} {m : M Fl} {β : Bag} {as : List Ar} {s : S} {d : D} (s0 : S) (e : (⟨begin n as, β⟩ : S) = s0) (h : m s0 = some (s, .ok (.rt (.dat d)))) : runDef n m β as = some (s.β, .ok (.dat d)) := fn_ok (by rw [e]; exact h)
theorem fnF_at {n : Nat} {m : M Fl} {β : Bag} {as : List Ar} {s : S} {r : Rv} {ds : List D} (s0 : S) (e : (⟨begin n as, β⟩ : S) = s0) (h : m s0 = some (s, .ok (.rt r))) (k : resOf s r = some (.fresh ds)) : runDef n m β as = some (s.β, .ok (.fresh ds)) := by
  unfold runDef; rw [e, h]; simp only [k, Option.map_some]
theorem plainAll_map {α : Type} {f : α → D} : ∀ {xs : List α}, (∀ x ∈ xs, (f x).plain = true) → PyData.plainAll (xs.map f) = true
  | [], _ => by simp [PyData.plainAll]
  | x :: xs, h => by
    have ih := plainAll_map (f := f) (xs := xs) fun y hy => h y (by simp [hy])
    simp [PyData.plainAll, ih, h x (by simp)]
theorem plain_ints (xs : List Int) : PyData.plainAll (xs.map PyData.int) = true := plainAll_map fun x _ => by simp [PyData.plain]
theorem ti_plain (xs : List Int) : (ti xs).plain = true := by
  simp only [PyData.plain]
  exact plainAll_map fun x _ => by simp [PyData.plain]
theorem isTup_ok {i : Nat} {s : S} {ds : List D} (h : mVar i s = some (s, .ok (.dat (.tuple ds)))) (p : (PyData.tuple ds).plain = true) : mUn (dIs PyData.isTuple) (mVar i) s = some (s, .ok (.dat (.bool true))) :=
  unD h (by unfold dIs; rw [if_pos p]; rfl)
theorem isTup {m : M Rv} {s : S} {ds : List D} (h : m s = some (s, .ok (.dat (.tuple ds)))) (p : (PyData.tuple ds).plain = true) : mUn (dIs PyData.isTuple) m s = some (s, .ok (.dat (.bool true))) :=
  unD h (by unfold dIs; rw [if_pos p]; rfl)
theorem num_int (β : Bag) (i : Int) : F_is_number β [.dat (.int i)] = some (β, .ok (.dat (.bool true))) := rfl
theorem idx_int (β : Bag) (i : Int) : F_is_index β [.dat (.int i)] = some (β, .ok (.dat (.bool (decide (0 ≤ i))))) := rfl
theorem idx_none (β : Bag) : F_is_index β [.dat .none] = some (β, .ok (.dat (.bool false))) := rfl
theorem le_line {n : Nat} (h : n ≤ 1000) : n ≤ sizeLine := by rw [sizeLine_eq]; omega
structure Nice (c k : Nat) (d : D) : Prop where
  pl : d.plain = true
  sh : d.showable = true
  cl : d.canLay0 = true
  ti : tinyD d = true
  dp : d.depth ≤ k
  wt : d.weight ≤ c
theorem Nice.mono {c k c' k' : Nat} {d : D} (h : Nice c k d) (hc : c ≤ c') (hk : k ≤ k') : Nice c' k' d := ⟨h.pl, h.sh, h.cl, h.ti, Nat.le_trans h.dp hk, Nat.le_trans h.wt hc⟩
theorem nice_all {c k : Nat} : ∀ {xs : List D}, (∀ x ∈ xs, Nice c k x) → PyData.plainAll xs = true ∧ PyData.showableAll xs = true ∧ PyData.canLayAll0 xs = true ∧ tinyL xs = true ∧ PyData.depthAll xs ≤ k ∧ PyData.weightAll xs ≤ xs.length * (c + 1)
  | [], _ => by simp [PyData.plainAll, PyData.showableAll, PyData.canLayAll0, tinyL, PyData.depthAll, PyData.weightAll]
  | x :: xs, h => by
    obtain ⟨h1, h2, h3, h4, h5, h6⟩ := nice_all (xs := xs) fun y hy => h y (by simp [hy])
    have n := h x (by simp)
    simp only [PyData.plainAll, PyData.showableAll, PyData.canLayAll0, tinyL, PyData.depthAll, PyData.weightAll, h1, h2, h3, h4, n.pl, n.sh, n.cl, n.ti, Bool.and_self, List.length_cons, true_and]
    refine ⟨by have := n.dp; omega, ?_⟩
    have := n.wt
    rw [Nat.add_mul]
    omega
theorem nice_tuple {c k n : Nat} {xs : List D} (h : ∀ x ∈ xs, Nice c k x) (hn : xs.length ≤ n) : Nice (n * (c + 1)) (k + 1) (.tuple xs) := by
  obtain ⟨h1, h2, h3, h4, h5, h6⟩ := nice_all h
  refine ⟨by simpa only [PyData.plain] using h1, by simpa only [PyData.showable] using h2, by simpa only [PyData.canLay0] using h3, by simpa only [tinyD] using h4, by simp only [PyData.depth]; omega, ?_⟩
  simp only [PyData.weight]
  exact Nat.le_trans h6 (Nat.mul_le_mul_right _ hn)
def few (x : Int) : Prop := 0 ≤ x ∧ x < 100
theorem nice_int {x : Int} (h : few x) : Nice 7 0 (.int x) := by
  have ht : fewI x = true := by unfold fewI; rw [decide_eq_true (show 0 ≤ x ∧ x < 100 from h)]; rfl
  have hw : ∀ n : Fin 100, PyData.weight (.int (n.val : Int)) ≤ 7 := by decide +kernel
  have hs : ∀ n : Fin 100, PyData.showable (.int (n.val : Int)) = true := by decide +kernel
  have e : (((⟨x.toNat, by have := h.1; have := h.2; omega⟩ : Fin 100).val : Nat) : Int) = x := by show ((x.toNat : Nat) : Int) = x; have := h.1; omega
  refine ⟨by simp [PyData.plain], by rw [← e]; exact hs _, by simp [PyData.canLay0], by simpa only [tinyD] using ht, by simp [PyData.depth], by rw [← e]; exact hw _⟩
theorem okRep_of {c k : Nat} {ds : List D} (h : Nice c k (.tuple ds)) (hk : k ≤ 50) (hc : c ≤ 1000000) : okRep (.tuple ds) = true := by
  show okRep.okSeq (.tuple ds) = true
  unfold okRep.okSeq
  unfold PyData.layable0
  have e1 : decide ((PyData.tuple ds).depth ≤ 50) = true := decide_eq_true (by have := h.dp; omega)
  have e2 : decide ((PyData.tuple ds).depth ≤ 64) = true := decide_eq_true (by have := h.dp; omega)
  have e3 : decide ((PyData.tuple ds).weight ≤ 2 ^ 20) = true := decide_eq_true (by have := h.wt; omega)
  rw [h.pl, h.sh, h.cl, h.ti, e1, e2, e3]
  rfl
mutual
theorem sameD_refl : ∀ d : D, d.plain = true → sameD d d = true
  | .none, _ => by simp [sameD]
  | .bool _, _ => by simp [sameD]
  | .int _, _ => by simp [sameD]
  | .str _, _ => by simp [sameD]
  | .list xs, h => by
    have := sameL_refl xs (by simpa only [PyData.plain] using h)
    simpa only [sameD] using this
  | .tuple xs, h => by
    have := sameL_refl xs (by simpa only [PyData.plain] using h)
    simpa only [sameD] using this
  | .dict _, h => by simp [PyData.plain] at h
theorem sameL_refl : ∀ ds : List D, PyData.plainAll ds = true → sameL ds ds = true
  | [], _ => by simp [sameL]
  | d :: ds, h => by
    have h' : d.plain = true ∧ PyData.plainAll ds = true := by simpa only [PyData.plainAll, Bool.and_eq_true] using h
    simp only [sameL, Bool.and_eq_true]
    exact ⟨sameD_refl d h'.1, sameL_refl ds h'.2⟩
end
theorem bagSet_ok {i : Nat} {k z : Int} {m : M Rv} {s s' : S} {β : Bag} (h : m s = some (s', .ok (.dat (.int z)))) (hb : isBag i s' = true) (hp : s'.β.put k z = some β) : mBagSet i k m s = some ({ s' with β := β }, .ok .nx) := by unfold mBagSet M.bind; simp only [h, hb, if_true, hp, Option.map_some]
theorem mul_r {i j : Int} (h : -(2 ^ 64) < j ∧ j < 2 ^ 64) : dMulT (.int i) (.int j) = some (.dat (.int (i * j))) := by
  show (if mulOk i j = true then some (Rs.dat (.int (i * j))) else none) = _
  rw [if_pos (by unfold mulOk; rw [decide_eq_true h, Bool.or_true])]
theorem mul_l {i j : Int} (h : -(2 ^ 64) < i ∧ i < 2 ^ 64) : dMulT (.int i) (.int j) = some (.dat (.int (i * j))) := by
  show (if mulOk i j = true then some (Rs.dat (.int (i * j))) else none) = _
  rw [if_pos (by unfold mulOk; rw [decide_eq_true h, Bool.true_or])]
theorem mod_ok {i j : Int} (h : 0 < j) : dMod (.int i) (.int j) = some (.dat (.int (i % j))) := if_pos h
theorem fdiv_ok {i j : Int} (h : 0 < j ∧ j.natAbs.log2 < 9000) : dFdivW (.int i) (.int j) = some (.dat (.int (i / j))) := if_pos h
theorem cGe_int {i j : Int} : cGe (.int i) (.int j) = some (.dat (.bool (decide (j ≤ i)))) := rfl
theorem cGe_int' : True := trivial
abbrev tk (n : Int) (x2 x3 x4 x5 x6 : Sl) (b0 b1 b2 : Int) (cs : List Int) (os : List Cell) : S := ⟨[.bag, .dat (.int n), x2, x3, x4, x5, x6], ⟨b0, b1, b2, cs, os⟩⟩
theorem cut_ints (cs : List Int) (b : Int) : ∃ ds, cutD (cs.map PyData.int) (some b) none = List.map PyData.int ds ∧ ds.length ≤ cs.length := by
  unfold cutD
  rw [List.length_map]
  refine ⟨(cs.drop (HT.sIx cs.length 0 (some b))).take (HT.sIx cs.length cs.length none - HT.sIx cs.length 0 (some b)), by rw [List.map_take, List.map_drop], ?_⟩
  (rw [List.length_take, List.length_drop])
  omega
theorem cell_ok (n : Int) (x2 x3 x4 x5 x6 : Sl) (b0 b1 b2 : Int) (cs : List Int) (os : List Cell) (hc : cs.length ≤ 63) : ∃ c : Int, mBin dIx (mBin dAdd (mSl (mBagIx 0 3) (some (mBagIx 0 2)) none) (mLst [mC (.int 0)])) (mC (.int 0)) (tk n x2 x3 x4 x5 x6 b0 b1 b2 cs os) = some (tk n x2 x3 x4 x5 x6 b0 b1 b2 cs os, .ok (.dat (.int c))) := by
  obtain ⟨ds, e, hl⟩ := cut_ints cs b2
  have h1 : mSl (mBagIx 0 3) (some (mBagIx 0 2)) none (tk n x2 x3 x4 x5 x6 b0 b1 b2 cs os) = some (tk n x2 x3 x4 x5 x6 b0 b1 b2 cs os, .ok (.fresh (ds.map PyData.int))) := by
    show some (tk n x2 x3 x4 x5 x6 b0 b1 b2 cs os, Except.ok (Rv.fresh (cutD (cs.map PyData.int) (some b2) none))) = _
    rw [e]
  have h2 : mLst [mC (.int 0)] (tk n x2 x3 x4 x5 x6 b0 b1 b2 cs os) = some (tk n x2 x3 x4 x5 x6 b0 b1 b2 cs os, .ok (.fresh [.int 0])) := rfl
  have h3 : dAdd (.list (ds.map PyData.int)) (.list [.int 0]) = some (.fresh (ds.map PyData.int ++ [.int 0])) := by
    show (if (ds.map PyData.int).length + 1 ≤ sizeLine then some (Rs.fresh (ds.map PyData.int ++ [.int 0])) else none) = _
    rw [if_pos (by rw [List.length_map, sizeLine_eq]; omega)]
  have h4 := bin_ok (f := dAdd) (d1 := .list (ds.map PyData.int)) (d2 := .list [.int 0]) h1 h2 rfl rfl h3
  cases ds with
  | nil => exact ⟨0, bin_ok (res := .dat (.int 0)) (f := dIx) (d1 := .list [.int 0]) (d2 := .int 0) h4 (show mC (.int 0) _ = some (_, .ok (.dat (.int 0))) from rfl) rfl rfl rfl⟩
  | cons c ds =>
    refine ⟨c, bin_ok (res := .dat (.int c)) (f := dIx) (d1 := .list ((c :: ds).map PyData.int ++ [.int 0])) (d2 := .int 0) h4 (show mC (.int 0) _ = some (_, .ok (.dat (.int 0))) from rfl) rfl rfl ?_⟩
    show ((ixD ((c :: ds).map PyData.int ++ [.int 0]) 0).map Rs.dat) = some (.dat (.int c))
    unfold ixD ixN
    rw [if_pos (by decide), if_pos (by simp; omega)]
    rfl
theorem take_a (n : Int) (x2 x3 x4 x5 x6 : Sl) (b1 b2 : Int) (cs : List Int) (os : List Cell) (hc : cs.length ≤ 63) : ∃ b0' b1' b2' y4 y5, mThen (mSet 4 (mBin dIx (mBin dAdd (mSl (mBagIx 0 3) (some (mBagIx 0 2)) none) (mLst [mC (.int 0)])) (mC (.int 0)))) (mThen (mBagAug 0 2 (mC (.int 1)))
      (mThen (mIfS (mIs (mBin cGe (mVar 4) (mBin dPow (mC (.int 10)) (mC (.int 18))))) (mBagSet 0 0 (mVar 4)) mNx) (mThen (mSet 5 (mBin dAdd (mBin dAdd (mBin dMulT (mBagIx 0 1) (mC (.int 48271))) (mBin dMod (mUn dInt (mVar 4)) (mC (.int 2147483647)))) (mBin dMulT (mC (.int 7919)) (mBagIx 0 2))))
        (mBagSet 0 1 (mBin dMod (mUn dInt (mVar 5)) (mC (.int 2147483647))))))) (tk n x2 x3 x4 x5 x6 0 b1 b2 cs os) = some (tk n x2 x3 y4 y5 x6 b0' b1' b2' cs os, .ok .nx) := by
  obtain ⟨c, hcell⟩ := cell_ok n x2 x3 x4 x5 x6 0 b1 b2 cs os hc
  rw [then_ok (set_ok hcell)]
  rw [then_ok (show mBagAug 0 2 (mC (.int 1)) _ = some (tk n x2 x3 (.dat (.int c)) x5 x6 0 b1 (b2 + 1) cs os, .ok .nx) from rfl)]
  have hp : mBin dPow (mC (.int 10)) (mC (.int 18)) (tk n x2 x3 (.dat (.int c)) x5 x6 0 b1 (b2 + 1) cs os) = some (tk n x2 x3 (.dat (.int c)) x5 x6 0 b1 (b2 + 1) cs os, .ok (.dat (.int (10 ^ 18)))) := by kernel_rfl
  have hge := isD (binD (f := cGe) (show mVar 4 (tk n x2 x3 (.dat (.int c)) x5 x6 0 b1 (b2 + 1) cs os) = some (_, .ok (.dat (.int c))) from rfl) hp cGe_int)
  have hif : ∃ b0', mIfS (mIs (mBin cGe (mVar 4) (mBin dPow (mC (.int 10)) (mC (.int 18))))) (mBagSet 0 0 (mVar 4)) mNx (tk n x2 x3 (.dat (.int c)) x5 x6 0 b1 (b2 + 1) cs os) = some (tk n x2 x3 (.dat (.int c)) x5 x6 b0' b1 (b2 + 1) cs os, .ok .nx) := by
    rw [ifs_ok hge]
    by_cases q : (10 ^ 18 : Int) ≤ c
    · rw [decide_eq_true q]; exact ⟨c, rfl⟩
    · rw [decide_eq_false q]; exact ⟨0, rfl⟩
  obtain ⟨b0', hif⟩ := hif
  rw [then_ok hif]
  have e1 : mBin dMulT (mBagIx 0 1) (mC (.int 48271)) (tk n x2 x3 (.dat (.int c)) x5 x6 b0' b1 (b2 + 1) cs os) = some (tk n x2 x3 (.dat (.int c)) x5 x6 b0' b1 (b2 + 1) cs os, .ok (.dat (.int (b1 * 48271)))) := binD (d1 := .int b1) (d2 := .int 48271) rfl rfl (mul_r (by decide))
  have e2 : mBin dMod (mUn dInt (mVar 4)) (mC (.int 2147483647)) (tk n x2 x3 (.dat (.int c)) x5 x6 b0' b1 (b2 + 1) cs os) = some (tk n x2 x3 (.dat (.int c)) x5 x6 b0' b1 (b2 + 1) cs os, .ok (.dat (.int (c % 2147483647)))) := binD (d1 := .int c) (d2 := .int 2147483647) rfl rfl (mod_ok (by decide))
  have e3 : mBin dMulT (mC (.int 7919)) (mBagIx 0 2) (tk n x2 x3 (.dat (.int c)) x5 x6 b0' b1 (b2 + 1) cs os) = some (tk n x2 x3 (.dat (.int c)) x5 x6 b0' b1 (b2 + 1) cs os, .ok (.dat (.int (7919 * (b2 + 1))))) := binD (d1 := .int 7919) (d2 := .int (b2 + 1)) rfl rfl (mul_l (by decide))
  have e4 := binD (f := dAdd) (binD (f := dAdd) e1 e2 rfl) e3 rfl
  rw [then_ok (set_ok e4)]
  have e5 := bagSet_ok (i := 0) (k := 1) (binD (f := dMod) (unD (f := dInt) (show mVar 5 (tk n x2 x3 (.dat (.int c)) (.dat (.int (b1 * 48271 + c % 2147483647 + 7919 * (b2 + 1)))) x6 b0' b1 (b2 + 1) cs os) = some (_, .ok (.dat (.int (b1 * 48271 + c % 2147483647 + 7919 * (b2 + 1))))) from rfl) rfl) (show mC (.int 2147483647) _ = some (_, .ok (.dat (.int 2147483647))) from rfl) (mod_ok (by decide))) rfl rfl
  exact ⟨_, _, _, _, _, e5⟩
theorem take_ok (b0 b1 b2 : Int) (cs : List Int) (os : List Cell) (hc : cs.length ≤ 63) (n : Int) (hn : 0 < n) (hl : n.natAbs.log2 < 9000) : ∃ b0' b1' b2' v, F_law_take ⟨b0, b1, b2, cs, os⟩ [.bag, .dat (.int n)] = some (⟨b0', b1', b2', cs, os⟩, .ok (.dat (.int v))) ∧ 0 ≤ v ∧ v < n := by
  have nonneg : ∀ a : Int, 0 ≤ a % n ∧ a % n < n := fun a => ⟨Int.emod_nonneg _ (by omega), Int.emod_lt_of_pos _ hn⟩
  have key : ∃ b0' b1' b2' x v, m_law_take (tk n .no .no .no .no .no b0 b1 b2 cs os) = some (⟨x, ⟨b0', b1', b2', cs, os⟩⟩, .ok (.rt (.dat (.int v)))) ∧ 0 ≤ v ∧ v < n := by
    unfold m_law_take
    have hA : ∃ c0 c1 c2 y4 y5, ∀ r : M Fl, mThen (mIfS (mIs (mBin cEq (mBagIx 0 0) (mC (.int 0)))) (mThen (mSet 4 (mBin dIx (mBin dAdd (mSl (mBagIx 0 3) (some (mBagIx 0 2)) none) (mLst [mC (.int 0)])) (mC (.int 0)))) (mThen (mBagAug 0 2 (mC (.int 1)))
      (mThen (mIfS (mIs (mBin cGe (mVar 4) (mBin dPow (mC (.int 10)) (mC (.int 18))))) (mBagSet 0 0 (mVar 4)) mNx) (mThen (mSet 5 (mBin dAdd (mBin dAdd (mBin dMulT (mBagIx 0 1) (mC (.int 48271))) (mBin dMod (mUn dInt (mVar 4)) (mC (.int 2147483647)))) (mBin dMulT (mC (.int 7919)) (mBagIx 0 2))))
        (mBagSet 0 1 (mBin dMod (mUn dInt (mVar 5)) (mC (.int 2147483647)))))))) mNx) r (tk n .no .no .no .no .no b0 b1 b2 cs os) = r (tk n .no .no y4 y5 .no c0 c1 c2 cs os) := by
      have ht : mIs (mBin cEq (mBagIx 0 0) (mC (.int 0))) (tk n .no .no .no .no .no b0 b1 b2 cs os) = some (tk n .no .no .no .no .no b0 b1 b2 cs os, .ok (decide (b0 = 0))) := rfl
      by_cases q : b0 = 0
      · subst q
        obtain ⟨c0, c1, c2, y4, y5, h⟩ := take_a n .no .no .no .no .no b1 b2 cs os hc
        exact ⟨c0, c1, c2, y4, y5, fun r => then_ok (by rw [ifs_ok ht, decide_eq_true rfl]; exact h)⟩
      · exact ⟨b0, b1, b2, .no, .no, fun r => then_ok (by rw [ifs_ok ht, decide_eq_false q]; rfl)⟩
    obtain ⟨c0, c1, c2, y4, y5, hA⟩ := hA
    rw [hA]
    have ht : mIs (mBin cGt (mBagIx 0 0) (mC (.int 0))) (tk n .no .no y4 y5 .no c0 c1 c2 cs os) = some (tk n .no .no y4 y5 .no c0 c1 c2 cs os, .ok (decide (0 < c0))) := rfl
    by_cases q : 0 < c0
    · have e1 : mBin dMod (mUn dInt (mBagIx 0 0)) (mVar 1) (tk n .no .no y4 y5 .no c0 c1 c2 cs os) = some (tk n .no .no y4 y5 .no c0 c1 c2 cs os, .ok (.dat (.int (c0 % n)))) := binD (d1 := .int c0) (d2 := .int n) rfl rfl (mod_ok hn)
      have e2 : mBin dFdivW (mUn dInt (mBagIx 0 0)) (mVar 1) (tk n .no .no y4 y5 (.dat (.int (c0 % n))) c0 c1 c2 cs os) = some (tk n .no .no y4 y5 (.dat (.int (c0 % n))) c0 c1 c2 cs os, .ok (.dat (.int (c0 / n)))) := binD (d1 := .int c0) (d2 := .int n) rfl rfl (fdiv_ok ⟨hn, hl⟩)
      refine ⟨c0 / n, c1, c2, [.bag, .dat (.int n), .no, .no, y4, y5, .dat (.int (c0 % n))], c0 % n, then_rt ?_, nonneg _⟩
      rw [ifs_ok ht, decide_eq_true q]
      show mThen (mSet 6 (mBin dMod (mUn dInt (mBagIx 0 0)) (mVar 1))) (mThen (mBagSet 0 0 (mBin dFdivW (mUn dInt (mBagIx 0 0)) (mVar 1))) (mRet (mVar 6))) (tk n .no .no y4 y5 .no c0 c1 c2 cs os) = _
      rw [then_ok (set_ok e1)]
      exact (then_ok (bagSet_ok (i := 0) (k := 0) e2 rfl rfl)).trans rfl
    · rw [then_ok (show mIfS _ _ mNx (tk n .no .no y4 y5 .no c0 c1 c2 cs os) = some (tk n .no .no y4 y5 .no c0 c1 c2 cs os, .ok .nx) from by rw [ifs_ok ht, decide_eq_false q]; rfl)]
      have e1 : mBin dMulT (mBin dAdd (mBagIx 0 1) (mC (.int 1))) (mC (.int 39373)) (tk n .no .no y4 y5 .no c0 c1 c2 cs os) = some (tk n .no .no y4 y5 .no c0 c1 c2 cs os, .ok (.dat (.int ((c1 + 1) * 39373)))) := binD (d1 := .int (c1 + 1)) (d2 := .int 39373) rfl rfl (mul_r (by decide))
      have e2 := binD (f := dMod) (unD (f := dInt) e1 rfl) (show mC (.int 1000000007) _ = some (_, .ok (.dat (.int 1000000007))) from rfl) (mod_ok (by decide))
      rw [then_ok (show mSet 2 _ (tk n .no .no y4 y5 .no c0 c1 c2 cs os) = some (tk n (.dat (.int ((c1 + 1) * 39373 % 1000000007))) .no y4 y5 .no c0 c1 c2 cs os, .ok .nx) from set_ok e2)]
      have hb : 0 ≤ (c1 + 1) * 39373 % 1000000007 ∧ (c1 + 1) * 39373 % 1000000007 < 1000000007 := ⟨Int.emod_nonneg _ (by decide), Int.emod_lt_of_pos _ (by decide)⟩
      generalize hg : (c1 + 1) * 39373 % 1000000007 = bg at hb
      have f1 : mBin dMulT (mVar 2) (mVar 2) (tk n (.dat (.int bg)) .no y4 y5 .no c0 c1 c2 cs os) = some (tk n (.dat (.int bg)) .no y4 y5 .no c0 c1 c2 cs os, .ok (.dat (.int (bg * bg)))) := binD (d1 := .int bg) (d2 := .int bg) rfl rfl (mul_l (by omega))
      have f2 := binD (f := dMod) (unD (f := dInt) f1 rfl) (show mC (.int 998244353) _ = some (_, .ok (.dat (.int 998244353))) from rfl) (mod_ok (by decide))
      have f3 := binD (f := dMulT) f2 (show mC (.int 30011) _ = some (_, .ok (.dat (.int 30011))) from rfl) (mul_r (by decide))
      have f4 := binD (f := dMod) (unD (f := dInt) f3 rfl) (show mC (.int 998244353) _ = some (_, .ok (.dat (.int 998244353))) from rfl) (mod_ok (by decide))
      rw [then_ok (show mSet 3 _ (tk n (.dat (.int bg)) .no y4 y5 .no c0 c1 c2 cs os) = some (tk n (.dat (.int bg)) (.dat (.int (bg * bg % 998244353 * 30011 % 998244353))) y4 y5 .no c0 c1 c2 cs os, .ok .nx) from set_ok f4)]
      generalize bg * bg % 998244353 * 30011 % 998244353 = sc
      have g1 : mBin dFdivW (mVar 3) (mC (.int 7)) (tk n (.dat (.int bg)) (.dat (.int sc)) y4 y5 .no c0 c1 c2 cs os) = some (tk n (.dat (.int bg)) (.dat (.int sc)) y4 y5 .no c0 c1 c2 cs os, .ok (.dat (.int (sc / 7)))) := binD (d1 := .int sc) (d2 := .int 7) rfl rfl (fdiv_ok ⟨by decide, by decide⟩)
      have g2 := ret_ok (binD (f := dMod) (unD (f := dInt) g1 rfl) (show mVar 1 _ = some (_, .ok (.dat (.int n))) from rfl) (mod_ok hn))
      exact ⟨c0, c1, c2, _, sc / 7 % n, g2, nonneg _⟩
  obtain ⟨b0', b1', b2', x, v, h, h1, h2⟩ := key
  refine ⟨b0', b1', b2', v, ?_, h1, h2⟩
  unfold F_law_take runDef
  rw [show (⟨begin 7 [.bag, .dat (.int n)], ⟨b0, b1, b2, cs, os⟩⟩ : S) = tk n .no .no .no .no .no b0 b1 b2 cs os from rfl, h]
  rfl
theorem few_log {n : Int} (h0 : 0 < n) (h : n < 10000) : n.natAbs.log2 < 9000 := by
  have h1 : n.natAbs < 2 ^ 9000 := Nat.lt_of_lt_of_le (show n.natAbs < 2 ^ 14 by omega) (Nat.pow_le_pow_right (by omega) (by omega))
  exact (Nat.log2_lt (by omega)).mpr h1
def gb (β : Bag) : Prop := β.cs.length ≤ 63
theorem take (β : Bag) (hc : gb β) (n : Int) (hn : 0 < n) (hl : n < 10000) : ∃ β' v, F_law_take β [.bag, .dat (.int n)] = some (β', .ok (.dat (.int v))) ∧ 0 ≤ v ∧ v < n ∧ gb β' := by
  obtain ⟨b0, b1, b2, cs, os⟩ := β
  obtain ⟨c0, c1, c2, v, h1, h2, h3⟩ := take_ok b0 b1 b2 cs os hc n hn (few_log hn hl)
  exact ⟨_, v, h1, h2, h3, hc⟩
theorem ixN_in {n : Nat} {v : Int} (h0 : 0 ≤ v) (h : v < n) : ixN n v = some v.toNat := by unfold ixN; rw [if_pos h0, if_pos h]
theorem ixD_in {xs : List D} {v : Int} (h0 : 0 ≤ v) (h : v < xs.length) : ∃ x, ixD xs v = some x ∧ x ∈ xs := by
  have hn : v.toNat < xs.length := by omega
  refine ⟨xs[v.toNat], ?_, List.getElem_mem hn⟩
  unfold ixD
  rw [ixN_in h0 h]
  show xs[v.toNat]? = _
  rw [List.getElem?_eq_getElem hn]
theorem some_ok (β : Bag) (hb : gb β) (xs : List D) (h : xs ≠ []) (hl : xs.length ≤ 1000) (d : D) (hd : d = .tuple xs ∨ d = .list xs) : ∃ β' x, F_law_some β [.bag, .dat d] = some (β', .ok (.dat x)) ∧ x ∈ xs ∧ gb β' := by
  have hp : 0 < xs.length := List.length_pos_iff.mpr h
  obtain ⟨β', v, e, v0, v1, g⟩ := take β hb xs.length (by omega) (by omega)
  obtain ⟨x, e2, hx⟩ := ixD_in v0 v1
  refine ⟨β', x, ?_, hx, g⟩
  have e3 : mUn dLenD (mVar 1) ⟨[.bag, .dat d], β⟩ = some (⟨[.bag, .dat d], β⟩, .ok (.dat (.int xs.length))) := by rcases hd with rfl | rfl <;> rfl
  have e4 : mArgs [mVar 0, mUn dLenD (mVar 1)] ⟨[.bag, .dat d], β⟩ = some (⟨[.bag, .dat d], β⟩, .ok [.bag, .dat (.int xs.length)]) := by
    refine (bind_ok (show mVar 0 _ = some (_, .ok .bag) from rfl)).trans ((bind_ok (show retainA .bag _ = some (_, .ok .bag) from rfl)).trans ?_)
    exact (bind_ok ((bind_ok e3).trans ((bind_ok (show retainA (.dat _) _ = some (_, .ok (.dat _)) from rfl)).trans rfl))).trans rfl
  refine fn_at (s := ⟨[.bag, .dat d], β'⟩) ⟨[.bag, .dat d], β⟩ rfl (ret_ok ?_)
  refine binD (show mVar 1 _ = some (_, .ok (.dat d)) from rfl) (callD e4 e) ?_
  rcases hd with rfl | rfl
  · show (ixD xs v).map Rs.dat = _
    rw [e2]; rfl
  · show (ixD xs v).map Rs.dat = _
    rw [e2]; rfl
theorem args_nil {s : S} : mArgs [] s = some (s, .ok []) := rfl
theorem args_cons' {m : M Rv} {ms : List (M Rv)} {s s1 s2 : S} {d : D} {as : List Ar} (h : m s = some (s1, .ok (.dat d))) (k : mArgs ms s1 = some (s2, .ok as)) : mArgs (m :: ms) s = some (s2, .ok (.dat d :: as)) :=
  (bind_ok h).trans ((bind_ok (show retainA (.dat d) s1 = some (s1, .ok (.dat d)) from rfl)).trans ((bind_ok k).trans rfl))
theorem args_bag {m : M Rv} {ms : List (M Rv)} {s s1 s2 : S} {as : List Ar} (h : m s = some (s1, .ok .bag)) (k : mArgs ms s1 = some (s2, .ok as)) : mArgs (m :: ms) s = some (s2, .ok (.bag :: as)) :=
  (bind_ok h).trans ((bind_ok (show retainA .bag s1 = some (s1, .ok .bag) from rfl)).trans ((bind_ok k).trans rfl))
theorem args_fresh {m : M Rv} {ms : List (M Rv)} {s s1 s2 : S} {ds : List D} {as : List Ar} (h : m s = some (s1, .ok (.fresh ds))) (k : mArgs ms s1 = some (s2, .ok as)) : mArgs (m :: ms) s = some (s2, .ok (.dat (.list ds) :: as)) :=
  (bind_ok h).trans ((bind_ok (show retainA (.fresh ds) s1 = some (s1, .ok (.dat (.list ds))) from rfl)).trans ((bind_ok k).trans rfl))
theorem tup_ok {ms : List (M Rv)} {s s1 : S} {as : List Ar} {ds : List D} (h : mArgs ms s = some (s1, .ok as)) (hd : datsOf as = some ds) : mTup ms s = some (s1, .ok (.dat (.tuple ds))) :=
  (bind_ok h).trans ((bind_ok (show M.lift (datsOf as) s1 = some (s1, .ok ds) from by unfold M.lift; rw [hd]; rfl)).trans rfl)
theorem lst_ok {ms : List (M Rv)} {s s1 : S} {as : List Ar} {ds : List D} (h : mArgs ms s = some (s1, .ok as)) (hd : datsOf as = some ds) : mLst ms s = some (s1, .ok (.fresh ds)) :=
  (bind_ok h).trans ((bind_ok (show M.lift (datsOf as) s1 = some (s1, .ok ds) from by unfold M.lift; rw [hd]; rfl)).trans rfl)
theorem append_ok {i : Nat} {m : M Rv} {s s1 : S} {ds : List D} {d : D} (h0 : isOwn i s = some (s, .ok ())) (h : m s = some (s1, .ok (.dat d))) (h1 : s1.ρ[i]? = some (.own ds)) (hl : ds.length < sizeLine) : mExpr (mAppend i m) s = some ({ s1 with ρ := s1.ρ.set i (.own (ds ++ [d])) }, .ok .nx) := by
  refine (bind_ok (a := .dat .none) (s' := { s1 with ρ := s1.ρ.set i (.own (ds ++ [d])) }) ?_).trans rfl
  refine (bind_ok h0).trans ((bind_ok h).trans ((bind_ok (show retain (.dat d) s1 = some (s1, .ok d) from rfl)).trans ?_))
  unfold setOwn
  simp only [h1, if_pos hl]
theorem cut_take {α : Type} (f : α → D) (xs : List α) (k : Nat) : cutD (xs.map f) none (some (k : Int)) = (xs.take k).map f := by
  unfold cutD
  rw [HT.sIx_nat, HT.sIx_none, Nat.sub_zero, List.drop_zero, List.length_map, ← List.map_take]
  congr 1
  rw [Nat.min_def]
  split
  · rfl
  · rw [List.take_of_length_le (Nat.le_refl _), List.take_of_length_le (by omega)]
end Pu
/-! S2 (k03): bodies as trees. -/
namespace Pu
open PySem PySem.Spec PyProof.Rows L2
/-- a body: its statements, each with no, one or two bodies -/
inductive B where
  | nil
  | leaf (w : Str) (as : List D) (r : B)
  | one (w : Str) (as : List D) (b r : B)
  | two (w : Str) (as : List D) (b c r : B)
def B.ds : B → List D
  | .nil => []
  | .leaf w as r => .tuple (.str w :: as) :: r.ds
  | .one w as b r => .tuple (.str w :: (as ++ [.tuple b.ds])) :: r.ds
  | .two w as b c r => .tuple (.str w :: (as ++ [.tuple b.ds, .tuple c.ds])) :: r.ds
def B.len : B → Nat
  | .nil => 0
  | .leaf _ _ r => r.len + 1
  | .one _ _ _ r => r.len + 1
  | .two _ _ _ _ r => r.len + 1
theorem B.ds_len : ∀ b : B, b.ds.length = b.len
  | .nil => rfl
  | .leaf _ _ r => by rw [B.ds, B.len, List.length_cons, r.ds_len]
  | .one _ _ _ r => by rw [B.ds, B.len, List.length_cons, r.ds_len]
  | .two _ _ _ _ r => by rw [B.ds, B.len, List.length_cons, r.ds_len]
def atm (d : D) : Prop := Nice 100 2 d
/-- a statement without bodies -/
inductive Lf : Str → List D → Prop
  | put (x y : D) : Lf "put" [x, y]
  | any (x : D) : Lf "any" [x]
  | make (x f t : D) : Lf "make" [x, f, t]
  | never : Lf "never" []
  | claim (w y z : D) : Lf "claim" [w, y, z]
inductive On : Str → List D → Prop
  | whl (h : Str) (y z : D) (hh : h = "same" ∨ h = "unlike") : On "while" [.str h, y, z]
  | loop : On "loop" []
inductive Tw : Str → List D → Prop
  | ite (y z : D) : Tw "if" [y, z]
  | choose : Tw "choose" []
def Ok : B → Nat → Prop
  | .nil, _ => True
  | .leaf w as r, n => Lf w as ∧ (∀ a ∈ as, atm a) ∧ Ok r n
  | .one w as b r, n => On w as ∧ (∀ a ∈ as, atm a) ∧ b.len ≤ 2 ∧ (∃ m, n = m + 1 ∧ Ok b m) ∧ Ok r n
  | .two w as b c r, n => Tw w as ∧ (∀ a ∈ as, atm a) ∧ b.len ≤ 2 ∧ c.len ≤ 2 ∧ (∃ m, n = m + 1 ∧ Ok b m ∧ Ok c m) ∧ Ok r n
def B.app : B → B → B
  | .nil, c => c
  | .leaf w as r, c => .leaf w as (r.app c)
  | .one w as b r, c => .one w as b (r.app c)
  | .two w as b b' r, c => .two w as b b' (r.app c)
theorem B.app_ds : ∀ a b : B, (a.app b).ds = a.ds ++ b.ds
  | .nil, b => rfl
  | .leaf w as r, b => by rw [B.app, B.ds, B.ds, r.app_ds b]; rfl
  | .one w as _ r, b => by rw [B.app, B.ds, B.ds, r.app_ds b]; rfl
  | .two w as _ _ r, b => by rw [B.app, B.ds, B.ds, r.app_ds b]; rfl
theorem Ok.app : ∀ {a b : B} {n : Nat}, Ok a n → Ok b n → Ok (a.app b) n
  | .nil, b, n, h, k => k
  | .leaf w as r, b, n, h, k => ⟨h.1, h.2.1, h.2.2.app k⟩
  | .one w as _ r, b, n, h, k => ⟨h.1, h.2.1, h.2.2.1, h.2.2.2.1, h.2.2.2.2.app k⟩
  | .two w as _ _ r, b, n, h, k => ⟨h.1, h.2.1, h.2.2.1, h.2.2.2.1, h.2.2.2.2.1, h.2.2.2.2.2.app k⟩
/-- a statement -/
def Sm (n : Nat) (d : D) : Prop := ∃ b : B, b.ds = [d] ∧ Ok b n
/-- a body's datum -/
def Bd (n len : Nat) (d : D) : Prop := ∃ b : B, d = .tuple b.ds ∧ Ok b n ∧ b.len ≤ len
def B.size : B → Nat
  | .nil => 0
  | .leaf _ _ r => 1 + r.size
  | .one _ _ b r => 1 + b.size + r.size
  | .two _ _ b c r => 1 + b.size + c.size + r.size
def mx : Nat → Nat
  | 0 => 1
  | n + 1 => 1 + 4 * mx n
theorem size_le : ∀ {b : B} {n : Nat}, Ok b n → b.size ≤ b.len * mx n
  | .nil, n, h => Nat.zero_le _
  | .leaf w as r, n, h => by
    have := size_le h.2.2
    have h1 : 1 ≤ mx n := by cases n <;> simp [mx]
    rw [B.size, B.len, Nat.add_mul]
    omega
  | .one w as b r, n, h => by
    obtain ⟨_, _, h2, ⟨m, rfl, h3⟩, h4⟩ := h
    have a1 := size_le h4
    have a2 := size_le h3
    have a3 : b.len * mx m ≤ 2 * mx m := Nat.mul_le_mul_right _ h2
    rw [B.size, B.len, Nat.add_mul, Nat.one_mul]
    have : mx (m + 1) = 1 + 4 * mx m := rfl
    omega
  | .two w as b c r, n, h => by
    obtain ⟨_, _, h2, h2', ⟨m, rfl, h3, h3'⟩, h4⟩ := h
    have a1 := size_le h4
    have a2 := size_le h3
    have a2' := size_le h3'
    have a3 : b.len * mx m ≤ 2 * mx m := Nat.mul_le_mul_right _ h2
    have a3' : c.len * mx m ≤ 2 * mx m := Nat.mul_le_mul_right _ h2'
    rw [B.size, B.len, Nat.add_mul, Nat.one_mul]
    have : mx (m + 1) = 1 + 4 * mx m := rfl
    omega
theorem len_size : ∀ b : B, b.len ≤ b.size
  | .nil => Nat.le_refl _
  | .leaf _ _ r => by have := len_size r; rw [B.size, B.len]; omega
  | .one _ _ _ r => by have := len_size r; rw [B.size, B.len]; omega
  | .two _ _ _ _ r => by have := len_size r; rw [B.size, B.len]; omega
theorem ok_mono : ∀ {b : B} {n m : Nat}, Ok b n → n ≤ m → Ok b m
  | .nil, n, m, h, k => trivial
  | .leaf w as r, n, m, h, k => ⟨h.1, h.2.1, ok_mono h.2.2 k⟩
  | .one w as b r, n, m, h, k => by
    obtain ⟨h0, h1, h2, ⟨j, rfl, h3⟩, h4⟩ := h
    obtain ⟨i, rfl⟩ : ∃ i, m = i + 1 := ⟨m - 1, by omega⟩
    exact ⟨h0, h1, h2, ⟨i, rfl, ok_mono h3 (by omega)⟩, ok_mono h4 k⟩
  | .two w as b c r, n, m, h, k => by
    obtain ⟨h0, h1, h2, h2', ⟨j, rfl, h3, h3'⟩, h4⟩ := h
    obtain ⟨i, rfl⟩ : ∃ i, m = i + 1 := ⟨m - 1, by omega⟩
    exact ⟨h0, h1, h2, h2', ⟨i, rfl, ok_mono h3 (by omega), ok_mono h3' (by omega)⟩, ok_mono h4 k⟩
end Pu
/-! S3 (k03): bodies are drawn as told. -/
namespace Pu
open PySem PySem.Spec PyProof.Rows L2
def dName : Sg → D
  | .f => .str "f"
  | .g => .str "g"
  | .h => .str "h"
def dParts (s : Sg) : D := .int s.parts
def dHow (s : Sg) : D := .str (if s.ei then "either" else "told")
/-- m gives some datum that is so and turns nothing but the bag -/
def GV (ρ : List Sl) (P : D → Prop) (m : M Rv) : Prop := ∀ β, gb β → ∃ β' d, m ⟨ρ, β⟩ = some (⟨ρ, β'⟩, .ok (.dat d)) ∧ gb β' ∧ P d
def GAs (ρ : List Sl) (P : List D → Prop) (ms : List (M Rv)) : Prop := ∀ β, gb β → ∃ (β' : Bag) (ds : List D), mArgs ms ⟨ρ, β⟩ = some (⟨ρ, β'⟩, .ok (ds.map .dat)) ∧ gb β' ∧ P ds
theorem dats_map : ∀ ds : List D, datsOf (ds.map .dat) = some ds
  | [] => rfl
  | d :: ds => by rw [List.map_cons, datsOf, dats_map ds]; rfl
section
variable {ρ : List Sl} {P : D → Prop} {Q : List D → Prop}
theorem GV.mono {P' : D → Prop} {m : M Rv} (h : GV ρ P m) (k : ∀ d, P d → P' d) : GV ρ P' m := fun β hb => by
  obtain ⟨β1, d, e1, g1, p1⟩ := h β hb
  exact ⟨β1, d, e1, g1, k d p1⟩
theorem ga_nil : GAs ρ (fun ds => ds = []) [] := fun β h => ⟨β, [], rfl, h, rfl⟩
theorem ga_cons {m : M Rv} {ms : List (M Rv)} (h : GV ρ P m) (k : GAs ρ Q ms) : GAs ρ (fun ds => ∃ d r, ds = d :: r ∧ P d ∧ Q r) (m :: ms) := fun β hb => by
  obtain ⟨β1, d, e1, g1, p1⟩ := h β hb
  obtain ⟨β2, ds, e2, g2, p2⟩ := k β1 g1
  exact ⟨β2, d :: ds, args_cons' e1 e2, g2, d, ds, rfl, p1, p2⟩
theorem gv_c {d : D} : GV ρ (fun x => x = d) (mC d) := fun β hb => ⟨β, d, rfl, hb, rfl⟩
theorem gv_var {i : Nat} {d : D} (h : ρ[i]? = some (.dat d)) : GV ρ (fun x => x = d) (mVar i) := fun β hb => ⟨β, d, by unfold mVar; simp only [h], hb, rfl⟩
theorem gv_tup {ms : List (M Rv)} (h : GAs ρ Q ms) : GV ρ (fun d => ∃ ds, d = .tuple ds ∧ Q ds) (mTup ms) := fun β hb => by
  obtain ⟨β1, ds, e, g, p⟩ := h β hb
  exact ⟨β1, .tuple ds, tup_ok e (dats_map ds), g, ds, rfl, p⟩
theorem gv_some {xs : List D} {m : M Rv} (h0 : ρ[0]? = some .bag) (hx : xs ≠ []) (hl : xs.length ≤ 1000) (h : ∀ β, gb β → ∃ β' as, mArgs [mVar 0, m] ⟨ρ, β⟩ = some (⟨ρ, β'⟩, .ok [.bag, .dat as]) ∧ (as = .tuple xs ∨ as = .list xs) ∧ gb β') : GV ρ (fun d => d ∈ xs) (mCall F_law_some [mVar 0, m]) := fun β hb => by
  obtain ⟨β1, as, e, ha, g⟩ := h β hb
  obtain ⟨β2, x, e2, hm, g2⟩ := some_ok β1 g xs hx hl as ha
  exact ⟨β2, x, callD e e2, g2, hm⟩
theorem gv_append {i : Nat} {m : M Rv} {found : List D} (h : GV ρ P m) (hi : ρ[i]? = some (.own found)) (hl : found.length < sizeLine) {β : Bag} (hb : gb β) : ∃ β' d, mExpr (mAppend i m) ⟨ρ, β⟩ = some (⟨ρ.set i (.own (found ++ [d])), β'⟩, .ok .nx) ∧ gb β' ∧ P d := by
  obtain ⟨β1, d, e, g, p⟩ := h β hb
  exact ⟨β1, d, append_ok (by unfold isOwn; simp only [hi]) e hi hl, g, p⟩
end
structure Kit where
  sg : List Sg
  vs : List D
  ts : List D
  h1 : sg ≠ []
  h2 : vs ≠ []
  h3 : ts ≠ []
  l1 : sg.length ≤ 1000
  l2 : vs.length ≤ 1000
  l3 : ts.length ≤ 1000
  n2 : ∀ d ∈ vs, Nice 40 0 d
  n3 : ∀ d ∈ ts, Nice 40 0 d
def dKit (k : Kit) : D := .dict [(.str "functions", .tuple (k.sg.map dSg)), (.str "variables", .tuple k.vs), (.str "things", .list k.ts)]
abbrev bo (k : Kit) (deep size : Nat) (x4 x5 x6 x7 x8 x9 x10 x11 x12 : Sl) : List Sl := [.bag, .dat (dKit k), .dat (.int (deep : Int)), .dat (.int (size : Int)), x4, x5, x6, x7, x8, x9, x10, x11, x12]
def GoB (F : Fn) (deep : Nat) : Prop := ∀ (k : Kit) (size : Nat) (β : Bag), 1 ≤ size → size ≤ 3 → gb β → ∃ β' d, F β [.bag, .dat (dKit k), .dat (.int (deep : Int)), .dat (.int (size : Int))] = some (β', .ok (.dat d)) ∧ gb β' ∧ Bd deep size d
def GoM (F : Fn) (deep : Nat) : Prop := ∀ (k : Kit) (β : Bag), gb β → ∃ β' d, F β [.bag, .dat (dKit k), .dat (.int (deep : Int))] = some (β', .ok (.dat d)) ∧ gb β' ∧ Bd deep 2 d
def m_chain (Fa Fb : Fn) : M Fl :=
  (mIfS (mIs (mBin cEq (mVar 6) (mC (.str "put")))) (mExpr (mAppend 4 (mTup [(mC (.str "put")), (mVar 7), (mVar 8)]))) (mIfS (mIs (mBin cEq (mVar 6) (mC (.str "any")))) (mExpr (mAppend 4 (mTup [(mC (.str "any")), (mVar 7)]))) (mIfS (mIs (mBin cEq (mVar 6) (mC (.str "make")))) (mThen (mAsg (.tup [(.nm 10), (.nm 11), (.nm 12)]) (mCall F_law_some [(mVar 0), (mBin dIxK (mVar 1) (mC (.str "functions")))])) (mExpr (mAppend 4 (mTup [(mC (.str "make")), (mVar 7), (mVar 10), (mSl (mTup [(mVar 8), (mVar 9)]) none (some (mVar 11)))])))) (mIfS (mIs (mBin cEq (mVar 6) (mC (.str "never")))) (mExpr (mAppend 4 (mTup [(mC (.str "never"))]))) (mIfS (mIs (mBin cEq (mVar 6) (mC (.str "claim")))) (mExpr (mAppend 4 (mTup [(mC (.str "claim")), (mCall F_law_some [(mVar 0), (mLst [(mC (.str "same")), (mC (.str "unlike"))])]), (mVar 8), (mVar 9)]))) (mIfS (mIs (mBin cEq (mVar 6) (mC (.str "if")))) (mExpr (mAppend 4 (mTup [(mC (.str "if")), (mVar 8), (mVar 9), (mCall Fa [(mVar 0), (mVar 1), (mBin dSub (mVar 2) (mC (.int 1))), (mC (.int 2))]), (mCall Fb [(mVar 0), (mVar 1), (mBin dSub (mVar 2) (mC (.int 1)))])]))) (mIfS (mIs (mBin cEq (mVar 6) (mC (.str "while")))) (mExpr (mAppend 4 (mTup [(mC (.str "while")), (mCall F_law_some [(mVar 0), (mLst [(mC (.str "same")), (mC (.str "unlike"))])]), (mVar 8), (mVar 9), (mCall Fa [(mVar 0), (mVar 1), (mBin dSub (mVar 2) (mC (.int 1))), (mC (.int 2))])]))) (mIfS (mIs (mBin cEq (mVar 6) (mC (.str "choose")))) (mExpr (mAppend 4 (mTup [(mC (.str "choose")), (mCall Fa [(mVar 0), (mVar 1), (mBin dSub (mVar 2) (mC (.int 1))), (mC (.int 2))]), (mCall Fb [(mVar 0), (mVar 1), (mBin dSub (mVar 2) (mC (.int 1)))])]))) (mExpr (mAppend 4 (mTup [(mC (.str "loop")), (mCall Fa [(mVar 0), (mVar 1), (mBin dSub (mVar 2) (mC (.int 1))), (mC (.int 2))])])))))))))))
theorem nice_str {x : Str} (h : decide ((PyData.str x).showable = true ∧ (PyData.str x).canLay0 = true ∧ tinyD (.str x) = true ∧ (PyData.str x).weight ≤ 40) = true) : Nice 40 0 (.str x) := by
  obtain ⟨a, b, c, d⟩ := of_decide_eq_true h
  exact ⟨by simp [PyData.plain], a, b, c, by simp [PyData.depth], d⟩
theorem atm_of {d : D} (h : Nice 40 0 d) : atm d := h.mono (by omega) (by omega)
theorem atm_name (s : Sg) : atm (dName s) := by
  cases s <;> exact atm_of (nice_str (by decide +kernel))
theorem alike_is {d : D} (h : d ∈ [PyData.str "same", .str "unlike"]) : ∃ w : Str, d = .str w ∧ (w = "same" ∨ w = "unlike") := by
  simp only [List.mem_cons, List.not_mem_nil, or_false] at h
  rcases h with rfl | rfl
  · exact ⟨_, rfl, .inl rfl⟩
  · exact ⟨_, rfl, .inr rfl⟩
theorem atm_alike {w : Str} (h : w = "same" ∨ w = "unlike") : atm (.str w) := by
  rcases h with rfl | rfl <;> exact atm_of (nice_str (by decide +kernel))
theorem al {xs : List D} (h : ∀ a ∈ xs, atm a) : ∀ a ∈ xs, atm a := h
section
variable {n : Nat} {d7 d8 d9 d : D}
theorem p_put (h7 : Nice 40 0 d7) (h8 : Nice 40 0 d8) : (∃ ds, d = .tuple ds ∧ ∃ a r, ds = a :: r ∧ a = .str "put" ∧ ∃ b r', r = b :: r' ∧ b = d7 ∧ ∃ c r'', r' = c :: r'' ∧ c = d8 ∧ r'' = []) → Sm n d := by
  rintro ⟨_, rfl, _, _, rfl, rfl, _, _, rfl, rfl, _, _, rfl, rfl, rfl⟩
  exact ⟨.leaf "put" [_, _] .nil, rfl, .put _ _, by intro a ha; simp only [List.mem_cons, List.not_mem_nil, or_false] at ha; rcases ha with rfl | rfl <;> exact atm_of (by assumption), trivial⟩
theorem p_any (h7 : Nice 40 0 d7) : (∃ ds, d = .tuple ds ∧ ∃ a r, ds = a :: r ∧ a = .str "any" ∧ ∃ b r', r = b :: r' ∧ b = d7 ∧ r' = []) → Sm n d := by
  rintro ⟨_, rfl, _, _, rfl, rfl, _, _, rfl, rfl, rfl⟩
  exact ⟨.leaf "any" [_] .nil, rfl, .any _, by intro a ha; simp only [List.mem_cons, List.not_mem_nil, or_false] at ha; subst ha; exact atm_of (by assumption), trivial⟩
theorem p_never : (∃ ds, d = .tuple ds ∧ ∃ a r, ds = a :: r ∧ a = .str "never" ∧ r = []) → Sm n d := by
  rintro ⟨_, rfl, _, _, rfl, rfl, rfl⟩
  exact ⟨.leaf "never" [] .nil, rfl, .never, by simp, trivial⟩
theorem p_claim (h8 : Nice 40 0 d8) (h9 : Nice 40 0 d9) : (∃ ds, d = .tuple ds ∧ ∃ a r, ds = a :: r ∧ a = .str "claim" ∧ ∃ b r', r = b :: r' ∧ b ∈ [PyData.str "same", .str "unlike"] ∧ ∃ c r'', r' = c :: r'' ∧ c = d8 ∧ ∃ e r3, r'' = e :: r3 ∧ e = d9 ∧ r3 = []) → Sm n d := by
  rintro ⟨_, rfl, _, _, rfl, rfl, _, _, rfl, hb, _, _, rfl, rfl, _, _, rfl, rfl, rfl⟩
  obtain ⟨w, rfl, hw⟩ := alike_is hb
  exact ⟨.leaf "claim" [_, _, _] .nil, rfl, .claim _ _ _, by intro a ha; simp only [List.mem_cons, List.not_mem_nil, or_false] at ha; rcases ha with rfl | rfl | rfl <;> first | (exact atm_of (by assumption)) | assumption | exact atm_alike hw, trivial⟩
theorem p_make {s : Sg} (h7 : Nice 40 0 d7) (h8 : Nice 40 0 d8) (h9 : Nice 40 0 d9) : (∃ ds, d = .tuple ds ∧ ∃ a r, ds = a :: r ∧ a = .str "make" ∧ ∃ b r', r = b :: r' ∧ b = d7 ∧ ∃ c r'', r' = c :: r'' ∧ c = dName s ∧ ∃ e r3, r'' = e :: r3 ∧ e = .tuple (cutD [d8, d9] none (some (s.parts : Int))) ∧ r3 = []) → Sm n d := by
  rintro ⟨_, rfl, _, _, rfl, rfl, b7, _, rfl, rfl, _, _, rfl, rfl, _, _, rfl, rfl, rfl⟩
  have hn : ∀ t : D, atm t → Sm n (.tuple [.str "make", b7, dName s, t]) := fun t ht => ⟨.leaf "make" [_, _, _] .nil, rfl, .make _ _ _, by intro a ha; simp only [List.mem_cons, List.not_mem_nil, or_false] at ha; rcases ha with rfl | rfl | rfl <;> first | (exact atm_of (by assumption)) | assumption | exact atm_name s, trivial⟩
  refine hn _ ?_
  have e : cutD [d8, d9] none (some (s.parts : Int)) = ([d8, d9].take s.parts).map id := cut_take id [d8, d9] s.parts
  rw [e]
  refine (nice_tuple (n := 2) (c := 40) (k := 0) (fun x hx => ?_) (by rw [List.length_map, List.length_take]; simp; omega)).mono (by omega) (by omega)
  rw [List.map_id] at hx
  have hx := List.mem_of_mem_take hx
  simp only [ List.mem_cons, List.not_mem_nil, or_false] at hx
  rcases hx with rfl | rfl <;> assumption
end
theorem p_if {n : Nat} {d8 d9 d : D} (h8 : Nice 40 0 d8) (h9 : Nice 40 0 d9) : (∃ ds, d = .tuple ds ∧ ∃ a r, ds = a :: r ∧ a = .str "if" ∧ ∃ b r', r = b :: r' ∧ b = d8 ∧ ∃ c r'', r' = c :: r'' ∧ c = d9 ∧ ∃ e r3, r'' = e :: r3 ∧ Bd n 2 e ∧ ∃ f r4, r3 = f :: r4 ∧ Bd n 2 f ∧ r4 = []) → Sm (n + 1) d := by
  rintro ⟨_, rfl, _, _, rfl, rfl, _, _, rfl, rfl, _, _, rfl, rfl, _, _, rfl, ⟨b, rfl, hb, lb⟩, _, _, rfl, ⟨c, rfl, hc, lc⟩, rfl⟩
  exact ⟨.two "if" [_, _] b c .nil, rfl, .ite _ _, by intro a ha; simp only [List.mem_cons, List.not_mem_nil, or_false] at ha; rcases ha with rfl | rfl <;> exact atm_of (by assumption), lb, lc, ⟨n, rfl, hb, hc⟩, trivial⟩
theorem p_while {n : Nat} {d8 d9 d : D} (h8 : Nice 40 0 d8) (h9 : Nice 40 0 d9) : (∃ ds, d = .tuple ds ∧ ∃ a r, ds = a :: r ∧ a = .str "while" ∧ ∃ b r', r = b :: r' ∧ b ∈ [PyData.str "same", .str "unlike"] ∧ ∃ c r'', r' = c :: r'' ∧ c = d8 ∧ ∃ e r3, r'' = e :: r3 ∧ e = d9 ∧ ∃ f r4, r3 = f :: r4 ∧ Bd n 2 f ∧ r4 = []) → Sm (n + 1) d := by
  rintro ⟨_, rfl, _, _, rfl, rfl, _, _, rfl, hb, _, _, rfl, rfl, _, _, rfl, rfl, _, _, rfl, ⟨b, rfl, hb2, lb⟩, rfl⟩
  obtain ⟨w, rfl, hw⟩ := alike_is hb
  exact ⟨.one "while" [_, _, _] b .nil, rfl, .whl _ _ _ hw, by intro a ha; simp only [List.mem_cons, List.not_mem_nil, or_false] at ha; rcases ha with rfl | rfl | rfl <;> first | (exact atm_of (by assumption)) | exact atm_alike hw, lb, ⟨n, rfl, hb2⟩, trivial⟩
theorem p_choose {n : Nat} {d : D} : (∃ ds, d = .tuple ds ∧ ∃ a r, ds = a :: r ∧ a = .str "choose" ∧ ∃ e r3, r = e :: r3 ∧ Bd n 2 e ∧ ∃ f r4, r3 = f :: r4 ∧ Bd n 2 f ∧ r4 = []) → Sm (n + 1) d := by
  rintro ⟨_, rfl, _, _, rfl, rfl, _, _, rfl, ⟨b, rfl, hb, lb⟩, _, _, rfl, ⟨c, rfl, hc, lc⟩, rfl⟩
  exact ⟨.two "choose" [] b c .nil, rfl, .choose, by simp, lb, lc, ⟨n, rfl, hb, hc⟩, trivial⟩
theorem p_loop {n : Nat} {d : D} : (∃ ds, d = .tuple ds ∧ ∃ a r, ds = a :: r ∧ a = .str "loop" ∧ ∃ e r3, r = e :: r3 ∧ Bd n 2 e ∧ r3 = []) → Sm (n + 1) d := by
  rintro ⟨_, rfl, _, _, rfl, rfl, _, _, rfl, ⟨b, rfl, hb, lb⟩, rfl⟩
  exact ⟨.one "loop" [] b .nil, rfl, .loop, by simp, lb, ⟨n, rfl, hb⟩, trivial⟩
section
variable {Fa Fb : Fn} {k : Kit} {deep size : Nat} {x4 x5 x6 x7 x8 x9 x10 x11 x12 : Sl}
theorem gv_call {F : Fn} (h : GoB F deep) : GV (bo k (deep + 1) size x4 x5 x6 x7 x8 x9 x10 x11 x12) (Bd deep 2) (mCall F [(mVar 0), (mVar 1), (mBin dSub (mVar 2) (mC (.int 1))), (mC (.int 2))]) := fun β hb => by
  obtain ⟨β', d, e, g, p⟩ := h k 2 β (by omega) (by omega) hb
  refine ⟨β', d, callD (as := [.bag, .dat (dKit k), .dat (.int (deep : Int)), .dat (.int 2)]) ?_ e, g, p⟩
  have : ((deep + 1 : Nat) : Int) - 1 = (deep : Int) := by omega
  rw [← this]
  rfl
theorem gv_callM {F : Fn} (h : GoM F deep) : GV (bo k (deep + 1) size x4 x5 x6 x7 x8 x9 x10 x11 x12) (Bd deep 2) (mCall F [(mVar 0), (mVar 1), (mBin dSub (mVar 2) (mC (.int 1)))]) := fun β hb => by
  obtain ⟨β', d, e, g, p⟩ := h k β hb
  refine ⟨β', d, callD (as := [.bag, .dat (dKit k), .dat (.int (deep : Int))]) ?_ e, g, p⟩
  have : ((deep + 1 : Nat) : Int) - 1 = (deep : Int) := by omega
  rw [← this]
  rfl
theorem gv_alike : GV (bo k deep size x4 x5 x6 x7 x8 x9 x10 x11 x12) (fun d => d ∈ [.str "same", .str "unlike"]) (mCall F_law_some [(mVar 0), (mLst [(mC (.str "same")), (mC (.str "unlike"))])]) :=
  gv_some (xs := [.str "same", .str "unlike"]) rfl (by simp) (by simp) fun β hb => ⟨β, _, rfl, .inr rfl, hb⟩
theorem gv_vars : GV (bo k deep size x4 x5 x6 x7 x8 x9 x10 x11 x12) (fun d => d ∈ k.vs) (mCall F_law_some [(mVar 0), (mBin dIxK (mVar 1) (mC (.str "variables")))]) :=
  gv_some (xs := k.vs) rfl k.h2 k.l2 fun β hb => ⟨β, .tuple k.vs, by kernel_rfl, .inl rfl, hb⟩
theorem gv_things : GV (bo k deep size x4 x5 x6 x7 x8 x9 x10 x11 x12) (fun d => d ∈ k.ts) (mCall F_law_some [(mVar 0), (mBin dIxK (mVar 1) (mC (.str "things")))]) :=
  gv_some (xs := k.ts) rfl k.h3 k.l3 fun β hb => ⟨β, .list k.ts, by kernel_rfl, .inr rfl, hb⟩
def words (deep : Nat) : List Str := if deep = 0 then ["put", "any", "make", "never", "claim"] else ["put", "any", "make", "never", "claim", "if", "while", "choose", "loop"]
/-- a chain's turn -/
def Turn (k : Kit) (deep size : Nat) (found : List D) (m : M Fl) (ρ : List Sl) : Prop := ∀ β, gb β → ∃ (β' : Bag) (d : D) (y5 y6 y7 y8 y9 y10 y11 y12 : Sl), m ⟨ρ, β⟩ = some (⟨bo k deep size (.own (found ++ [d])) y5 y6 y7 y8 y9 y10 y11 y12, β'⟩, .ok .nx) ∧ gb β' ∧ Sm deep d
theorem turn_of {found : List D} {m : M Rv} (hl : found.length < sizeLine) (h : GV (bo k deep size (.own found) x5 x6 x7 x8 x9 x10 x11 x12) (Sm deep) m) : Turn k deep size found (mExpr (mAppend 4 m)) (bo k deep size (.own found) x5 x6 x7 x8 x9 x10 x11 x12) := fun β hb => by
  obtain ⟨β', d, e, g, p⟩ := gv_append (i := 4) (found := found) h rfl hl hb
  exact ⟨β', d, x5, x6, x7, x8, x9, x10, x11, x12, e, g, p⟩
theorem chain_ok {found : List D} {d7 d8 d9 : D} {w : Str} (hl : found.length < sizeLine) (n7 : Nice 40 0 d7) (n8 : Nice 40 0 d8) (n9 : Nice 40 0 d9) (hw : w ∈ words deep) (hF : ∀ n, deep = n + 1 → GoB Fa n ∧ GoM Fb n) :
    Turn k deep size found (m_chain Fa Fb) (bo k deep size (.own found) x5 (.dat (.str w)) (.dat d7) (.dat d8) (.dat d9) x10 x11 x12) := by
  have hput : w = "put" ∨ w = "any" ∨ w = "make" ∨ w = "never" ∨ w = "claim" ∨ ((∃ n, deep = n + 1) ∧ (w = "if" ∨ w = "while" ∨ w = "choose" ∨ w = "loop")) := by
    unfold words at hw
    split at hw
    · simp only [List.mem_cons, List.not_mem_nil, or_false] at hw
      rcases hw with h | h | h | h | h <;> simp [h]
    · have hd : ∃ n, deep = n + 1 := ⟨deep - 1, by omega⟩
      simp only [List.mem_cons, List.not_mem_nil, or_false] at hw
      rcases hw with h | h | h | h | h | h | h | h | h
      · exact .inl h
      · exact .inr (.inl h)
      · exact .inr (.inr (.inl h))
      · exact .inr (.inr (.inr (.inl h)))
      · exact .inr (.inr (.inr (.inr (.inl h))))
      · exact .inr (.inr (.inr (.inr (.inr ⟨hd, .inl h⟩))))
      · exact .inr (.inr (.inr (.inr (.inr ⟨hd, .inr (.inl h)⟩))))
      · exact .inr (.inr (.inr (.inr (.inr ⟨hd, .inr (.inr (.inl h))⟩))))
      · exact .inr (.inr (.inr (.inr (.inr ⟨hd, .inr (.inr (.inr h))⟩))))
  have red : ∀ {m : M Fl}, (∀ β, m_chain Fa Fb ⟨bo k deep size (.own found) x5 (.dat (.str w)) (.dat d7) (.dat d8) (.dat d9) x10 x11 x12, β⟩ = m ⟨bo k deep size (.own found) x5 (.dat (.str w)) (.dat d7) (.dat d8) (.dat d9) x10 x11 x12, β⟩) →
      Turn k deep size found m (bo k deep size (.own found) x5 (.dat (.str w)) (.dat d7) (.dat d8) (.dat d9) x10 x11 x12) → Turn k deep size found (m_chain Fa Fb) (bo k deep size (.own found) x5 (.dat (.str w)) (.dat d7) (.dat d8) (.dat d9) x10 x11 x12) := fun e h β hb => by
    rw [e β]; exact h β hb
  rcases hput with rfl | rfl | rfl | rfl | rfl | ⟨⟨n, rfl⟩, hz⟩
  · exact red (m := mExpr (mAppend 4 (mTup [(mC (.str "put")), (mVar 7), (mVar 8)]))) (fun β => by kernel_rfl) (turn_of hl ((gv_tup (ga_cons gv_c (ga_cons (gv_var rfl) (ga_cons (gv_var rfl) ga_nil)))).mono fun d => p_put n7 n8))
  · exact red (m := mExpr (mAppend 4 (mTup [(mC (.str "any")), (mVar 7)]))) (fun β => by kernel_rfl) (turn_of hl ((gv_tup (ga_cons gv_c (ga_cons (gv_var rfl) ga_nil))).mono fun d => p_any n7))
  · refine red (m := mThen (mAsg (.tup [(.nm 10), (.nm 11), (.nm 12)]) (mCall F_law_some [(mVar 0), (mBin dIxK (mVar 1) (mC (.str "functions")))])) (mExpr (mAppend 4 (mTup [(mC (.str "make")), (mVar 7), (mVar 10), (mSl (mTup [(mVar 8), (mVar 9)]) none (some (mVar 11)))])))) (fun β => by kernel_rfl) fun β hb => ?_
    obtain ⟨β1, x, e, hx, g⟩ := some_ok β hb (k.sg.map dSg) (by simpa using k.h1) (by simpa using k.l1) _ (.inl rfl)
    obtain ⟨s, _, rfl⟩ := List.mem_map.mp hx
    have ha : mAsg (.tup [(.nm 10), (.nm 11), (.nm 12)]) (mCall F_law_some [(mVar 0), (mBin dIxK (mVar 1) (mC (.str "functions")))]) ⟨bo k deep size (.own found) x5 (.dat (.str "make")) (.dat d7) (.dat d8) (.dat d9) x10 x11 x12, β⟩ =
        some (⟨bo k deep size (.own found) x5 (.dat (.str "make")) (.dat d7) (.dat d8) (.dat d9) (.dat (dName s)) (.dat (dParts s)) (.dat (dHow s)), β1⟩, .ok .nx) := by
      refine (bind_ok (callD (ρ := bo k deep size (.own found) x5 (.dat (.str "make")) (.dat d7) (.dat d8) (.dat d9) x10 x11 x12) (as := [.bag, .dat (.tuple (k.sg.map dSg))]) (by kernel_rfl) e)).trans ?_
      cases s <;> rfl
    have hs : GV (bo k deep size (.own found) x5 (.dat (.str "make")) (.dat d7) (.dat d8) (.dat d9) (.dat (dName s)) (.dat (dParts s)) (.dat (dHow s))) (fun d => d = .tuple (cutD [d8, d9] none (some (s.parts : Int)))) (mSl (mTup [(mVar 8), (mVar 9)]) none (some (mVar 11))) := fun β hb => ⟨β, .tuple (cutD [d8, d9] none (some (s.parts : Int))), rfl, hb, rfl⟩
    obtain ⟨β2, d, y5, y6, y7, y8, y9, y10, y11, y12, e2, g2⟩ := turn_of hl ((gv_tup (ga_cons (gv_c (d := .str "make")) (ga_cons (gv_var (i := 7) rfl) (ga_cons (gv_var (i := 10) rfl) (ga_cons hs ga_nil))))).mono fun d => p_make n7 n8 n9) β1 g
    exact ⟨β2, d, y5, y6, y7, y8, y9, y10, y11, y12, (then_ok ha).trans e2, g2⟩
  · exact red (m := mExpr (mAppend 4 (mTup [(mC (.str "never"))]))) (fun β => by kernel_rfl) (turn_of hl ((gv_tup (ga_cons gv_c ga_nil)).mono fun d => p_never))
  · exact red (m := mExpr (mAppend 4 (mTup [(mC (.str "claim")), (mCall F_law_some [(mVar 0), (mLst [(mC (.str "same")), (mC (.str "unlike"))])]), (mVar 8), (mVar 9)]))) (fun β => by kernel_rfl) (turn_of hl ((gv_tup (ga_cons gv_c (ga_cons gv_alike (ga_cons (gv_var rfl) (ga_cons (gv_var rfl) ga_nil))))).mono fun d => p_claim n8 n9))
  · obtain ⟨ha, hb⟩ := hF n rfl
    rcases hz with rfl | rfl | rfl | rfl
    · exact red (m := (mExpr (mAppend 4 (mTup [(mC (.str "if")), (mVar 8), (mVar 9), (mCall Fa [(mVar 0), (mVar 1), (mBin dSub (mVar 2) (mC (.int 1))), (mC (.int 2))]), (mCall Fb [(mVar 0), (mVar 1), (mBin dSub (mVar 2) (mC (.int 1)))])])))) (fun β => by kernel_rfl) (turn_of hl ((gv_tup (ga_cons gv_c (ga_cons (gv_var rfl) (ga_cons (gv_var rfl) (ga_cons (gv_call ha) (ga_cons (gv_callM hb) ga_nil)))))).mono fun d => p_if n8 n9))
    · exact red (m := (mExpr (mAppend 4 (mTup [(mC (.str "while")), (mCall F_law_some [(mVar 0), (mLst [(mC (.str "same")), (mC (.str "unlike"))])]), (mVar 8), (mVar 9), (mCall Fa [(mVar 0), (mVar 1), (mBin dSub (mVar 2) (mC (.int 1))), (mC (.int 2))])])))) (fun β => by kernel_rfl) (turn_of hl ((gv_tup (ga_cons gv_c (ga_cons gv_alike (ga_cons (gv_var rfl) (ga_cons (gv_var rfl) (ga_cons (gv_call ha) ga_nil)))))).mono fun d => p_while n8 n9))
    · exact red (m := (mExpr (mAppend 4 (mTup [(mC (.str "choose")), (mCall Fa [(mVar 0), (mVar 1), (mBin dSub (mVar 2) (mC (.int 1))), (mC (.int 2))]), (mCall Fb [(mVar 0), (mVar 1), (mBin dSub (mVar 2) (mC (.int 1)))])])))) (fun β => by kernel_rfl) (turn_of hl ((gv_tup (ga_cons gv_c (ga_cons (gv_call ha) (ga_cons (gv_callM hb) ga_nil)))).mono fun d => p_choose))
    · exact red (m := (mExpr (mAppend 4 (mTup [(mC (.str "loop")), (mCall Fa [(mVar 0), (mVar 1), (mBin dSub (mVar 2) (mC (.int 1))), (mC (.int 2))])])))) (fun β => by kernel_rfl) (turn_of hl ((gv_tup (ga_cons gv_c (ga_cons (gv_call ha) ga_nil))).mono fun d => p_loop))
end
end Pu
/-! S4 (k03): bodies and programs are drawn. -/
namespace Pu
open PySem PySem.Spec PyProof.Rows L2
def words11 : List D := [(.str "put"), (.str "make"), (.str "make"), (.str "make"), (.str "any"), (.str "if"), (.str "while"), (.str "choose"), (.str "loop"), (.str "claim"), (.str "claim")]
def m_w1 : M Fl := (mSet 6 (mCall F_law_some [(mVar 0), (mLst [(mC (.str "put")), (mC (.str "make")), (mC (.str "make")), (mC (.str "make")), (mC (.str "any")), (mC (.str "if")), (mC (.str "while")), (mC (.str "choose")), (mC (.str "loop")), (mC (.str "claim")), (mC (.str "claim"))])]))
def m_w2 : M Fl := (mSet 6 (mIf (mAndT (mIs (mBin cEq (mVar 2) (mC (.int 0)))) (mIs (mBin cIn (mVar 6) (mTup [(mC (.str "if")), (mC (.str "while")), (mC (.str "choose")), (mC (.str "loop"))])))) (mC (.str "make")) (mVar 6)))
def m_w3 : M Fl := (mSet 6 (mIf (mIs (mBin cEq (mCall F_law_take [(mVar 0), (mC (.int 20))]) (mC (.int 0)))) (mC (.str "never")) (mVar 6)))
def m_xyz : M Fl := (mPar3 7 8 9 [(mCall F_law_some [(mVar 0), (mBin dIxK (mVar 1) (mC (.str "variables")))]), (mCall F_law_some [(mVar 0), (mBin dIxK (mVar 1) (mC (.str "things")))]), (mCall F_law_some [(mVar 0), (mBin dIxK (mVar 1) (mC (.str "things")))])])
def m_turn (Fa Fb : Fn) : M Fl := mThen m_w1 (mThen m_w2 (mThen m_w3 (mThen m_xyz (m_chain Fa Fb))))
section
variable {Fa Fb : Fn} {k : Kit} {deep size : Nat}
theorem set6_ok {x4 x5 x6 x7 x8 x9 x10 x11 x12 : Sl} {m : M Rv} {β β' : Bag} {d : D} (h : m ⟨bo k deep size x4 x5 x6 x7 x8 x9 x10 x11 x12, β⟩ = some (⟨bo k deep size x4 x5 x6 x7 x8 x9 x10 x11 x12, β'⟩, .ok (.dat d))) : mSet 6 m ⟨bo k deep size x4 x5 x6 x7 x8 x9 x10 x11 x12, β⟩ = some (⟨bo k deep size x4 x5 (.dat d) x7 x8 x9 x10 x11 x12, β'⟩, .ok .nx) := set_ok h
theorem word_one {x4 x5 x6 x7 x8 x9 x10 x11 x12 : Sl} (β : Bag) (hb : gb β) : ∃ (β' : Bag) (w : Str), m_w1 ⟨bo k deep size x4 x5 x6 x7 x8 x9 x10 x11 x12, β⟩ = some (⟨bo k deep size x4 x5 (.dat (.str w)) x7 x8 x9 x10 x11 x12, β'⟩, .ok .nx) ∧ w ∈ words 1 ∧ gb β' := by
  obtain ⟨β1, x, e, hx, g⟩ := some_ok β hb words11 (by simp [words11]) (by simp [words11]) _ (.inr rfl)
  obtain ⟨w, rfl, hw⟩ : ∃ w : Str, x = .str w ∧ w ∈ words 1 := by
    unfold words11 at hx
    (simp only [List.mem_cons, List.not_mem_nil, or_false] at hx)
    rcases hx with rfl | rfl | rfl | rfl | rfl | rfl | rfl | rfl | rfl | rfl | rfl <;> exact ⟨_, rfl, by simp [words]⟩
  exact ⟨β1, w, set6_ok (callD (as := [.bag, .dat (.list words11)]) rfl e), hw, g⟩
theorem word_two {x4 x5 x7 x8 x9 x10 x11 x12 : Sl} (β : Bag) (w : Str) (hw : w ∈ words 1) : ∃ w' : Str, m_w2 ⟨bo k deep size x4 x5 (.dat (.str w)) x7 x8 x9 x10 x11 x12, β⟩ = some (⟨bo k deep size x4 x5 (.dat (.str w')) x7 x8 x9 x10 x11 x12, β⟩, .ok .nx) ∧ w' ∈ words deep := by
  have ht : mIs (mBin cEq (mVar 2) (mC (.int 0))) ⟨bo k deep size x4 x5 (.dat (.str w)) x7 x8 x9 x10 x11 x12, β⟩ = some (⟨bo k deep size x4 x5 (.dat (.str w)) x7 x8 x9 x10 x11 x12, β⟩, .ok (decide ((deep : Int) = 0))) := isD rfl
  by_cases q : deep = 0
  · subst q
    rw [decide_eq_true (by rfl)] at ht
    have hin : ∃ b : Bool, mIs (mBin cIn (mVar 6) (mTup [(mC (.str "if")), (mC (.str "while")), (mC (.str "choose")), (mC (.str "loop"))])) ⟨bo k 0 size x4 x5 (.dat (.str w)) x7 x8 x9 x10 x11 x12, β⟩ = some (⟨bo k 0 size x4 x5 (.dat (.str w)) x7 x8 x9 x10 x11 x12, β⟩, .ok b) ∧ (b = false → w ∈ words 0) := by
      simp only [words, if_neg (show ¬ (1 = 0) by omega), List.mem_cons, List.not_mem_nil, or_false] at hw
      rcases hw with rfl | rfl | rfl | rfl | rfl | rfl | rfl | rfl | rfl
      · exact ⟨false, by kernel_rfl, fun _ => by simp [words]⟩
      · exact ⟨false, by kernel_rfl, fun _ => by simp [words]⟩
      · exact ⟨false, by kernel_rfl, fun _ => by simp [words]⟩
      · exact ⟨false, by kernel_rfl, fun _ => by simp [words]⟩
      · exact ⟨false, by kernel_rfl, fun _ => by simp [words]⟩
      · exact ⟨true, by kernel_rfl, nofun⟩
      · exact ⟨true, by kernel_rfl, nofun⟩
      · exact ⟨true, by kernel_rfl, nofun⟩
      · exact ⟨true, by kernel_rfl, nofun⟩
    obtain ⟨b, hin, hb⟩ := hin
    cases b with
    | true => exact ⟨"make", set6_ok ((if_ok ((and_t ht).trans hin)).trans rfl), by simp [words]⟩
    | false => exact ⟨w, set6_ok ((if_ok ((and_t ht).trans hin)).trans rfl), hb rfl⟩
  · rw [decide_eq_false (by omega)] at ht
    refine ⟨w, set6_ok ((if_ok (and_f ht)).trans rfl), ?_⟩
    simp only [words, if_neg q]
    simpa only [words, if_neg (show ¬ (1 = 0) by omega)] using hw
theorem word_three {x4 x5 x7 x8 x9 x10 x11 x12 : Sl} (β : Bag) (hb : gb β) (w : Str) (hw : w ∈ words deep) : ∃ (β' : Bag) (w' : Str), m_w3 ⟨bo k deep size x4 x5 (.dat (.str w)) x7 x8 x9 x10 x11 x12, β⟩ = some (⟨bo k deep size x4 x5 (.dat (.str w')) x7 x8 x9 x10 x11 x12, β'⟩, .ok .nx) ∧ w' ∈ words deep ∧ gb β' := by
  obtain ⟨β1, v, e, v0, v1, g⟩ := take β hb 20 (by omega) (by omega)
  have ht : mIs (mBin cEq (mCall F_law_take [(mVar 0), (mC (.int 20))]) (mC (.int 0))) ⟨bo k deep size x4 x5 (.dat (.str w)) x7 x8 x9 x10 x11 x12, β⟩ = some (⟨bo k deep size x4 x5 (.dat (.str w)) x7 x8 x9 x10 x11 x12, β1⟩, .ok (decide (v = 0))) :=
    isD (binD (callD (as := [.bag, .dat (.int 20)]) rfl e) (show mC (.int 0) _ = some (_, .ok (.dat (.int 0))) from rfl) rfl)
  by_cases q : v = 0
  · rw [decide_eq_true q] at ht
    exact ⟨β1, "never", set6_ok ((if_ok ht).trans rfl), by unfold words; split <;> simp, g⟩
  · rw [decide_eq_false q] at ht
    exact ⟨β1, w, set6_ok ((if_ok ht).trans rfl), hw, g⟩
theorem xyz_ok {x4 x5 x6 x7 x8 x9 x10 x11 x12 : Sl} (β : Bag) (hb : gb β) : ∃ (β' : Bag) (a b c : D), m_xyz ⟨bo k deep size x4 x5 x6 x7 x8 x9 x10 x11 x12, β⟩ = some (⟨bo k deep size x4 x5 x6 (.dat a) (.dat b) (.dat c) x10 x11 x12, β'⟩, .ok .nx) ∧ gb β' ∧ Nice 40 0 a ∧ Nice 40 0 b ∧ Nice 40 0 c := by
  obtain ⟨β1, a, e1, g1, p1⟩ := gv_vars (k := k) (deep := deep) (size := size) (x4 := x4) (x5 := x5) (x6 := x6) (x7 := x7) (x8 := x8) (x9 := x9) (x10 := x10) (x11 := x11) (x12 := x12) β hb
  obtain ⟨β2, b, e2, g2, p2⟩ := gv_things (k := k) (deep := deep) (size := size) (x4 := x4) (x5 := x5) (x6 := x6) (x7 := x7) (x8 := x8) (x9 := x9) (x10 := x10) (x11 := x11) (x12 := x12) β1 g1
  obtain ⟨β3, c, e3, g3, p3⟩ := gv_things (k := k) (deep := deep) (size := size) (x4 := x4) (x5 := x5) (x6 := x6) (x7 := x7) (x8 := x8) (x9 := x9) (x10 := x10) (x11 := x11) (x12 := x12) β2 g2
  exact ⟨β3, a, b, c, (bind_ok (args_cons' e1 (args_cons' e2 (args_cons' e3 args_nil)))).trans rfl, g3, k.n2 _ p1, k.n3 _ p2, k.n3 _ p3⟩
theorem turn_ok {found : List D} {x5 x6 x7 x8 x9 x10 x11 x12 : Sl} (hl : found.length < sizeLine) (hF : ∀ n, deep = n + 1 → GoB Fa n ∧ GoM Fb n) : Turn k deep size found (m_turn Fa Fb) (bo k deep size (.own found) x5 x6 x7 x8 x9 x10 x11 x12) := fun β hb => by
  obtain ⟨β1, w1, e1, h1, g1⟩ := word_one (k := k) (deep := deep) (size := size) (x4 := .own found) (x5 := x5) (x6 := x6) (x7 := x7) (x8 := x8) (x9 := x9) (x10 := x10) (x11 := x11) (x12 := x12) β hb
  obtain ⟨w2, e2, h2⟩ := word_two (k := k) (deep := deep) (size := size) (x4 := .own found) (x5 := x5) (x7 := x7) (x8 := x8) (x9 := x9) (x10 := x10) (x11 := x11) (x12 := x12) β1 w1 h1
  obtain ⟨β3, w3, e3, h3, g3⟩ := word_three (k := k) (deep := deep) (size := size) (x4 := .own found) (x5 := x5) (x7 := x7) (x8 := x8) (x9 := x9) (x10 := x10) (x11 := x11) (x12 := x12) β1 g1 w2 h2
  obtain ⟨β4, a, b, c, e4, g4, na, nb, nc⟩ := xyz_ok (k := k) (deep := deep) (size := size) (x4 := .own found) (x5 := x5) (x6 := .dat (.str w3)) (x7 := x7) (x8 := x8) (x9 := x9) (x10 := x10) (x11 := x11) (x12 := x12) β3 g3
  obtain ⟨β5, d, y5, y6, y7, y8, y9, y10, y11, y12, e5, g5, p5⟩ := chain_ok (x5 := x5) (d7 := a) (d8 := b) (d9 := c) (x10 := x10) (x11 := x11) (x12 := x12) (size := size) (k := k) hl na nb nc h3 hF β4 g4
  refine ⟨β5, d, y5, y6, y7, y8, y9, y10, y11, y12, ?_, g5, p5⟩
  unfold m_turn
  rw [then_ok e1, then_ok e2, then_ok e3, then_ok e4]
  exact e5
theorem turns_ok (hF : ∀ n, deep = n + 1 → GoB Fa n ∧ GoM Fb n) : ∀ (ds : List D) (found : List D) (β : Bag) (x5 x6 x7 x8 x9 x10 x11 x12 : Sl), gb β → found.length + ds.length ≤ 1000 →
    ∃ (β' : Bag) (b : B) (y5 y6 y7 y8 y9 y10 y11 y12 : Sl), loopF (Tg.put (.nm 5)) (m_turn Fa Fb) ds ⟨bo k deep size (.own found) x5 x6 x7 x8 x9 x10 x11 x12, β⟩ = some (⟨bo k deep size (.own (found ++ b.ds)) y5 y6 y7 y8 y9 y10 y11 y12, β'⟩, .ok .nx) ∧ gb β' ∧ Ok b deep ∧ b.len = ds.length
  | [], found, β, x5, x6, x7, x8, x9, x10, x11, x12, hb, _ => ⟨β, .nil, x5, x6, x7, x8, x9, x10, x11, x12, by rw [B.ds, List.append_nil]; rfl, hb, trivial, rfl⟩
  | d :: ds, found, β, x5, x6, x7, x8, x9, x10, x11, x12, hb, hl => by
    rw [List.length_cons] at hl
    obtain ⟨β1, e, y5, y6, y7, y8, y9, y10, y11, y12, e1, g1, b1, hb1, ob1⟩ := turn_ok (k := k) (size := size) (x5 := .dat d) (x6 := x6) (x7 := x7) (x8 := x8) (x9 := x9) (x10 := x10) (x11 := x11) (x12 := x12) (show found.length < sizeLine by rw [sizeLine_eq]; omega) hF β hb
    obtain ⟨β2, b2, z5, z6, z7, z8, z9, z10, z11, z12, e2, g2, ob2, lb2⟩ := turns_ok hF ds (found ++ [e]) β1 y5 y6 y7 y8 y9 y10 y11 y12 g1 (by simp; omega)
    have lb1 : b1.len = 1 := by rw [← B.ds_len, hb1]; rfl
    have ha : found ++ (b1.app b2).ds = found ++ [e] ++ b2.ds := by rw [B.app_ds, hb1, List.append_assoc]
    exact ⟨β2, b1.app b2, z5, z6, z7, z8, z9, z10, z11, z12, (bind_ok (show Tg.put (.nm 5) d _ = some (⟨bo k deep size (.own found) (.dat d) x6 x7 x8 x9 x10 x11 x12, β⟩, .ok ()) from rfl)).trans ((bind_ok e1).trans (by rw [ha]; exact e2)), g2, ob1.app ob2, by rw [← B.ds_len, B.app_ds, List.length_append, B.ds_len, B.ds_len, lb1, lb2, List.length_cons]; omega⟩
theorem body_ok (hF : ∀ n, deep = n + 1 → GoB Fa n ∧ GoM Fb n) : GoB (runDef 13 (m_law_body Fa Fb)) deep := fun k size β h1 h2 hb => by
  obtain ⟨β1, v, e, v0, v1, g⟩ := take β hb size (by omega) (by omega)
  have hr : mRng1 (mBin dAdd (mC (.int 1)) (mCall F_law_take [(mVar 0), (mVar 3)])) ⟨bo k deep size (.own []) .no .no .no .no .no .no .no .no, β⟩ = some (⟨bo k deep size (.own []) .no .no .no .no .no .no .no .no, β1⟩, .ok (rangeD 0 (1 + v).toNat)) := by
    refine (bind_ok (binD (d := .int (1 + v)) (show mC (.int 1) _ = some (⟨bo k deep size (.own []) .no .no .no .no .no .no .no .no, β⟩, .ok (.dat (.int 1))) from rfl) (callD (as := [.bag, .dat (.int (size : Int))]) rfl e) rfl)).trans ?_
    show (if small62 (1 + v) = true then M.pure (rangeD 0 (1 + v).toNat) else M.stuck) _ = _
    rw [if_pos (by unfold small62; simp; omega)]
    rfl
  obtain ⟨β2, bb, y5, y6, y7, y8, y9, y10, y11, y12, e2, g2, ob, lb⟩ := turns_ok (k := k) (size := size) hF (rangeD 0 (1 + v).toNat) [] β1 .no .no .no .no .no .no .no .no g (by unfold rangeD; simp; omega)
  rw [List.nil_append] at e2
  refine ⟨β2, .tuple bb.ds, ?_, g2, bb, rfl, ob, by rw [lb]; unfold rangeD; simp; omega⟩
  refine fn_at (s := ⟨bo k deep size (.own bb.ds) y5 y6 y7 y8 y9 y10 y11 y12, β2⟩) ⟨bo k deep size .no .no .no .no .no .no .no .no .no, β⟩ rfl ?_
  refine (then_ok (show mSet 4 (mLst []) _ = some (⟨bo k deep size (.own []) .no .no .no .no .no .no .no .no, β⟩, .ok .nx) from rfl)).trans ?_
  refine (then_ok ((bind_ok hr).trans e2)).trans (ret_ok ?_)
  exact un_ok (r := .slot 4) (d := .list bb.ds) (res := .dat (.tuple bb.ds)) rfl rfl rfl
theorem maybe_ok (hF : GoB Fa deep) : GoM (runDef 3 (m_law_maybe_body Fa Fb)) deep := fun k β hb => by
  obtain ⟨β1, v, e, v0, v1, g⟩ := take β hb 2 (by omega) (by omega)
  have ht : mIs (mBin cEq (mCall F_law_take [(mVar 0), (mC (.int 2))]) (mC (.int 0))) ⟨[.bag, .dat (dKit k), .dat (.int (deep : Int))], β⟩ = some (⟨[.bag, .dat (dKit k), .dat (.int (deep : Int))], β1⟩, .ok (decide (v = 0))) :=
    isD (binD (callD (as := [.bag, .dat (.int 2)]) rfl e) (show mC (.int 0) _ = some (_, .ok (.dat (.int 0))) from rfl) rfl)
  by_cases q : v = 0
  · rw [decide_eq_true q] at ht
    obtain ⟨β2, d, e2, g2, p2⟩ := hF k 2 β1 (by omega) (by omega) g
    exact ⟨β2, d, fn_at (s := ⟨[.bag, .dat (dKit k), .dat (.int (deep : Int))], β2⟩) ⟨[.bag, .dat (dKit k), .dat (.int (deep : Int))], β⟩ rfl (ret_ok ((if_ok ht).trans (callD (as := [.bag, .dat (dKit k), .dat (.int (deep : Int)), .dat (.int 2)]) rfl e2))), g2, p2⟩
  · rw [decide_eq_false q] at ht
    exact ⟨β1, .tuple [], fn_at (s := ⟨[.bag, .dat (dKit k), .dat (.int (deep : Int))], β1⟩) ⟨[.bag, .dat (dKit k), .dat (.int (deep : Int))], β⟩ rfl (ret_ok ((if_ok ht).trans rfl)), g, .nil, rfl, trivial, Nat.zero_le _⟩
end
theorem ff_ok : ∀ deep n : Nat, GoB (FF (n + 2 * deep + 1)).1 deep ∧ GoM (FF (n + 2 * deep + 2)).2 deep := by
  have h : ∀ deep : Nat, ∀ n : Nat, GoB (FF (n + 2 * deep + 1)).1 deep := by
    intro deep
    induction deep with
    | zero => exact fun n => body_ok (Fa := (FF n).1) (Fb := (FF n).2) nofun
    | succ d ih =>
      intro n
      refine body_ok (Fa := (FF (n + 2 * (d + 1))).1) (Fb := (FF (n + 2 * (d + 1))).2) fun j hj => ?_
      obtain rfl : d = j := by omega
      refine ⟨?_, ?_⟩
      · have := ih (n + 1)
        rw [show n + 1 + 2 * d + 1 = n + 2 * (d + 1) by omega] at this
        exact this
      · have := maybe_ok (Fa := (FF (n + 2 * d + 1)).1) (Fb := (FF (n + 2 * d + 1)).2) (ih n)
        rw [show n + 2 * (d + 1) = (n + 2 * d + 1) + 1 by omega]
        exact this
  exact fun deep n => ⟨h deep n, maybe_ok (Fa := (FF (n + 2 * deep + 1)).1) (Fb := (FF (n + 2 * deep + 1)).2) (h deep n)⟩
theorem law_body_ok : GoB F_law_body 2 := (ff_ok 2 0).1
theorem nice_name {d : D} (h : d ∈ [PyData.str "a", .str "b", .str "c", .str "d", .str "nil", .str "yes"]) : Nice 40 0 d := by
  simp only [List.mem_cons, List.not_mem_nil, or_false] at h
  rcases h with rfl | rfl | rfl | rfl | rfl | rfl <;> exact nice_str (by decide +kernel)
theorem loopC_pick {vs : List Nat} {p : D → M Unit} {mt : M Bool} {me : M Rv} {ρ : List Sl} : ∀ (ds : List D) (acc : List D) (β : Bag),
    (∀ d ∈ ds, ∀ β, gb β → ∃ β' b ρ2 ρ3, p d ⟨ρ, β⟩ = some (⟨ρ2, β⟩, .ok ()) ∧ mt ⟨ρ2, β⟩ = some (⟨ρ3, β'⟩, .ok b) ∧ (b = true → ∃ d', me ⟨ρ3, β'⟩ = some (⟨ρ3, β'⟩, .ok (.dat d'))) ∧ gb β' ∧ wipeS ρ3 vs = ρ) → gb β → acc.length + ds.length ≤ 1000 →
    ∃ (β' : Bag) (es : List D), loopC vs p mt me ds acc ⟨ρ, β⟩ = some (⟨ρ, β'⟩, .ok (acc ++ es)) ∧ es.length ≤ ds.length ∧ gb β'
  | [], acc, β, _, hb, _ => ⟨β, [], by simp [loopC, M.pure], Nat.le_refl _, hb⟩
  | d :: ds, acc, β, h, hb, hl => by
    obtain ⟨β1, b, ρ2, ρ3, h1, h2, h3, h4, h5⟩ := h d (by simp) β hb
    rw [List.length_cons] at hl
    have e1 : calm mt ⟨ρ2, β⟩ = some (⟨ρ3, β1⟩, .ok b) := by unfold calm; rw [h2]
    cases b with
    | false =>
      obtain ⟨β2, es, k1, k2, k3⟩ := loopC_pick ds acc β1 (fun y hy => h y (by simp [hy])) h4 (by omega)
      refine ⟨β2, es, ?_, by simp; omega, k3⟩
      unfold loopC
      unfold M.bind
      simp only [h1, e1, if_false, Bool.false_eq_true, h5, k1]
    | true =>
      obtain ⟨d', hd⟩ := h3 rfl
      have e2 : calm me ⟨ρ3, β1⟩ = some (⟨ρ3, β1⟩, .ok (.dat d')) := by unfold calm; rw [hd]
      obtain ⟨β2, es, k1, k2, k3⟩ := loopC_pick ds (acc ++ [d']) β1 (fun y hy => h y (by simp [hy])) h4 (by simp; omega)
      refine ⟨β2, d' :: es, ?_, by simp; omega, k3⟩
      unfold loopC
      unfold M.bind
      simp only [h1, e1, e2, if_true, retain]
      rw [if_pos (by rw [sizeLine_eq]; omega), h5, k1]
      simp
abbrev pr (size : Int) (x2 x3 x4 x5 x6 x7 : Sl) : List Sl := [.bag, .dat (.int size), x2, x3, x4, x5, x6, x7]
theorem program_ok (β : Bag) (hb : gb β) : ∃ (β' : Bag) (p : Pg), F_law_program β [.bag, .dat (.int 3)] = some (β', .ok (.dat (dP p))) ∧ gb β' ∧ Bd 2 3 p.body := by
  obtain ⟨β1, u, e1, u0, u1, g1⟩ := take β hb 3 (by omega) (by omega)
  obtain ⟨β2, v, e2, v0, v1, g2⟩ := take β1 g1 3 (by omega) (by omega)
  obtain ⟨sg, hs, hs0, hs1⟩ : ∃ sg : List Sg, cutD [dSg .f, dSg .g, dSg .h] none (some (1 + u)) = sg.map dSg ∧ sg ≠ [] ∧ sg.length ≤ 3 := by
    rcases (show u = 0 ∨ u = 1 ∨ u = 2 by omega) with rfl | rfl | rfl
    · exact ⟨[.f], by rfl, by simp, by simp⟩
    · exact ⟨[.f, .g], by rfl, by simp, by simp⟩
    · exact ⟨[.f, .g, .h], by rfl, by simp, by simp⟩
  obtain ⟨vs, hv, hv0, hv1, hv2⟩ : ∃ vs : List D, cutD [.str "a", .str "b", .str "c", .str "d"] none (some (2 + v)) = vs ∧ vs ≠ [] ∧ vs.length ≤ 4 ∧ ∀ d ∈ vs, d ∈ [PyData.str "a", .str "b", .str "c", .str "d"] := by
    rcases (show v = 0 ∨ v = 1 ∨ v = 2 by omega) with rfl | rfl | rfl
    · exact ⟨[.str "a", .str "b"], by rfl, by simp, by simp, by simp⟩
    · exact ⟨[.str "a", .str "b", .str "c"], by rfl, by simp, by simp, by simp⟩
    · exact ⟨[.str "a", .str "b", .str "c", .str "d"], by rfl, by simp, by simp, by simp⟩
  obtain ⟨β3, ins, e3, hi, g3⟩ := loopC_pick (vs := [7]) (p := Tg.put (.nm 7)) (mt := mIs (mBin cEq (mCall F_law_take [(mVar 0), (mC (.int 2))]) (mC (.int 0)))) (me := mVar 7) (ρ := pr 3 (.dat (.tuple (sg.map dSg))) (.dat (.tuple vs)) .no .no .no .no) vs [] β2 (fun d _ β hb => by
    obtain ⟨β', z, e, _, _, g⟩ := take β hb 2 (by omega) (by omega)
    exact ⟨β', decide (z = 0), pr 3 (.dat (.tuple (sg.map dSg))) (.dat (.tuple vs)) .no .no .no (.dat d), pr 3 (.dat (.tuple (sg.map dSg))) (.dat (.tuple vs)) .no .no .no (.dat d), rfl,
      isD (binD (callD (as := [.bag, .dat (.int 2)]) rfl e) (show mC (.int 0) _ = some (_, .ok (.dat (.int 0))) from rfl) rfl), fun _ => ⟨d, rfl⟩, g, rfl⟩) g2 (by simp; omega)
  rw [List.nil_append] at e3
  obtain ⟨kk, hkk⟩ : ∃ kk : Kit, dKit kk = .dict [(.str "functions", .tuple (sg.map dSg)), (.str "variables", .tuple vs), (.str "things", .list (vs ++ [.str "nil", .str "yes"]))] := ⟨⟨sg, vs, vs ++ [.str "nil", .str "yes"], hs0, hv0, by simp, by omega, by omega, by simp; omega, fun d hd => nice_name (by have := hv2 d hd; simp only [List.mem_cons, List.not_mem_nil, or_false] at this ⊢; rcases this with h | h | h | h <;> simp [h]), fun d hd => nice_name (by
    rcases List.mem_append.mp hd with hd | hd
    · have := hv2 d hd; simp only [List.mem_cons, List.not_mem_nil, or_false] at this ⊢; rcases this with h | h | h | h <;> simp [h]
    · simp only [List.mem_cons, List.not_mem_nil, or_false] at hd ⊢; rcases hd with h | h <;> simp [h])⟩, rfl⟩
  obtain ⟨β4, body, e4, g4, p4⟩ := law_body_ok kk 3 β3 (by omega) (by omega) g3
  refine ⟨β4, ⟨sg, vs, ins, body⟩, ?_, g4, p4⟩
  refine fn_at (s := ⟨pr 3 (.dat (.tuple (sg.map dSg))) (.dat (.tuple vs)) (.dat (.tuple ins)) (.dat (dKit kk)) (.dat body) .no, β4⟩) ⟨pr 3 .no .no .no .no .no .no, β⟩ rfl ?_
  have s1 : mSet 2 (mSl (mTup [(mTup [(mC (.str "f")), (mC (.int 1)), (mC (.str "told"))]), (mTup [(mC (.str "g")), (mC (.int 2)), (mC (.str "either"))]), (mTup [(mC (.str "h")), (mC (.int 2)), (mC (.str "told"))])]) none (some (mBin dAdd (mC (.int 1)) (mCall F_law_take [(mVar 0), (mC (.int 3))])))) ⟨pr 3 .no .no .no .no .no .no, β⟩ =
      some (⟨pr 3 (.dat (.tuple (sg.map dSg))) .no .no .no .no .no, β1⟩, .ok .nx) := by
    rw [← hs]
    refine set_ok (s' := ⟨pr 3 .no .no .no .no .no .no, β1⟩) (d := .tuple (cutD [dSg .f, dSg .g, dSg .h] none (some (1 + u)))) ?_
    refine (bind_ok (show mTup _ _ = some (⟨pr 3 .no .no .no .no .no .no, β⟩, .ok (.dat (.tuple [dSg .f, dSg .g, dSg .h]))) from rfl)).trans ((bind_ok (show mPart none _ = some (_, .ok none) from rfl)).trans ((bind_ok (a := some (1 + u)) (s' := ⟨pr 3 .no .no .no .no .no .no, β1⟩) ?_).trans rfl))
    exact (bind_ok (binD (d := .int (1 + u)) (show mC (.int 1) _ = some (⟨pr 3 .no .no .no .no .no .no, β⟩, .ok (.dat (.int 1))) from rfl) (callD (as := [.bag, .dat (.int 3)]) rfl e1) rfl)).trans rfl
  have s2 : mSet 3 (mSl (mTup [(mC (.str "a")), (mC (.str "b")), (mC (.str "c")), (mC (.str "d"))]) none (some (mBin dAdd (mC (.int 2)) (mCall F_law_take [(mVar 0), (mC (.int 3))])))) ⟨pr 3 (.dat (.tuple (sg.map dSg))) .no .no .no .no .no, β1⟩ =
      some (⟨pr 3 (.dat (.tuple (sg.map dSg))) (.dat (.tuple vs)) .no .no .no .no, β2⟩, .ok .nx) := by
    rw [← hv]
    refine set_ok (s' := ⟨pr 3 (.dat (.tuple (sg.map dSg))) .no .no .no .no .no, β2⟩) (d := .tuple (cutD [.str "a", .str "b", .str "c", .str "d"] none (some (2 + v)))) ?_
    refine (bind_ok (show mTup _ _ = some (⟨pr 3 (.dat (.tuple (sg.map dSg))) .no .no .no .no .no, β1⟩, .ok (.dat (.tuple [.str "a", .str "b", .str "c", .str "d"]))) from rfl)).trans ((bind_ok (show mPart none _ = some (_, .ok none) from rfl)).trans ((bind_ok (a := some (2 + v)) (s' := ⟨pr 3 (.dat (.tuple (sg.map dSg))) .no .no .no .no .no, β2⟩) ?_).trans rfl))
    exact (bind_ok (binD (d := .int (2 + v)) (show mC (.int 2) _ = some (⟨pr 3 (.dat (.tuple (sg.map dSg))) .no .no .no .no .no, β1⟩, .ok (.dat (.int 2))) from rfl) (callD (as := [.bag, .dat (.int 3)]) rfl e2) rfl)).trans rfl
  have s3 : mSet 4 (mUn dTuple (mComp [7] (mSeq (mVar 3)) (.nm 7) (mIs (mBin cEq (mCall F_law_take [(mVar 0), (mC (.int 2))]) (mC (.int 0)))) (mVar 7))) ⟨pr 3 (.dat (.tuple (sg.map dSg))) (.dat (.tuple vs)) .no .no .no .no, β2⟩ =
      some (⟨pr 3 (.dat (.tuple (sg.map dSg))) (.dat (.tuple vs)) (.dat (.tuple ins)) .no .no .no, β3⟩, .ok .nx) := by
    refine set_ok (s' := ⟨pr 3 (.dat (.tuple (sg.map dSg))) (.dat (.tuple vs)) .no .no .no .no, β3⟩) (un_ok (r := .fresh ins) (d := .list ins) (res := .dat (.tuple ins)) ?_ rfl rfl)
    refine (bind_ok (show mSeq (mVar 3) _ = some (⟨pr 3 (.dat (.tuple (sg.map dSg))) (.dat (.tuple vs)) .no .no .no .no, β2⟩, .ok vs) from rfl)).trans ?_
    show (M.bind (loopC [7] (Tg.put (.nm 7)) (mIs (mBin cEq (mCall F_law_take [(mVar 0), (mC (.int 2))]) (mC (.int 0)))) (mVar 7) vs []) fun acc => fun s' => some (({ s' with ρ := backS (pr 3 (.dat (.tuple (sg.map dSg))) (.dat (.tuple vs)) .no .no .no .no) s'.ρ [7] } : S), Except.ok (Rv.fresh acc))) ⟨pr 3 (.dat (.tuple (sg.map dSg))) (.dat (.tuple vs)) .no .no .no .no, β2⟩ = _
    exact (bind_ok e3).trans rfl
  refine (then_ok s1).trans ((then_ok s2).trans ((then_ok s3).trans ?_))
  refine (then_ok (s' := ⟨pr 3 (.dat (.tuple (sg.map dSg))) (.dat (.tuple vs)) (.dat (.tuple ins)) (.dat (dKit kk)) .no .no, β3⟩) ?_).trans ?_
  · rw [hkk]
    have hadd : dAdd (.list vs) (.list [.str "nil", .str "yes"]) = some (.fresh (vs ++ [.str "nil", .str "yes"])) := by
      show (if vs.length + 2 ≤ sizeLine then some (Rs.fresh (vs ++ [.str "nil", .str "yes"])) else none) = _
      rw [if_pos (by rw [sizeLine_eq]; omega)]
    have h5 : mBin dAdd (mUn dList (mVar 3)) (mLst [(mC (.str "nil")), (mC (.str "yes"))]) ⟨pr 3 (.dat (.tuple (sg.map dSg))) (.dat (.tuple vs)) (.dat (.tuple ins)) .no .no .no, β3⟩ = some (⟨pr 3 (.dat (.tuple (sg.map dSg))) (.dat (.tuple vs)) (.dat (.tuple ins)) .no .no .no, β3⟩, .ok (.fresh (vs ++ [.str "nil", .str "yes"]))) :=
      bin_ok (r1 := .fresh vs) (r2 := .fresh [.str "nil", .str "yes"]) (d1 := .list vs) (d2 := .list [.str "nil", .str "yes"]) rfl rfl rfl rfl hadd
    refine set_ok (s' := ⟨pr 3 (.dat (.tuple (sg.map dSg))) (.dat (.tuple vs)) (.dat (.tuple ins)) .no .no .no, β3⟩) ?_
    refine (bind_ok (a := [(.str "functions", .tuple (sg.map dSg)), (.str "variables", .tuple vs), (.str "things", .list (vs ++ [.str "nil", .str "yes"]))]) ?_).trans rfl
    refine (bind_ok (show mVar 2 _ = some (⟨pr 3 (.dat (.tuple (sg.map dSg))) (.dat (.tuple vs)) (.dat (.tuple ins)) .no .no .no, β3⟩, .ok (.dat (.tuple (sg.map dSg)))) from rfl)).trans ((bind_ok (show retain _ _ = some (_, .ok (.tuple (sg.map dSg))) from rfl)).trans ((bind_ok (a := [(.str "variables", .tuple vs), (.str "things", .list (vs ++ [.str "nil", .str "yes"]))]) ?_).trans rfl))
    refine (bind_ok (show mVar 3 _ = some (⟨pr 3 (.dat (.tuple (sg.map dSg))) (.dat (.tuple vs)) (.dat (.tuple ins)) .no .no .no, β3⟩, .ok (.dat (.tuple vs))) from rfl)).trans ((bind_ok (show retain _ _ = some (_, .ok (.tuple vs)) from rfl)).trans ((bind_ok (a := [(.str "things", .list (vs ++ [.str "nil", .str "yes"]))]) ?_).trans rfl))
    exact (bind_ok h5).trans rfl
  · refine (then_ok (s' := ⟨pr 3 (.dat (.tuple (sg.map dSg))) (.dat (.tuple vs)) (.dat (.tuple ins)) (.dat (dKit kk)) (.dat body) .no, β4⟩) ?_).trans rfl
    exact set_ok (m := mCall F_law_body [(mVar 0), (mVar 5), (mC (.int 2)), (mVar 1)]) (s' := ⟨pr 3 (.dat (.tuple (sg.map dSg))) (.dat (.tuple vs)) (.dat (.tuple ins)) (.dat (dKit kk)) .no .no, β4⟩) (callD (as := [.bag, .dat (dKit kk), .dat (.int 2), .dat (.int 3)]) rfl e4)
end Pu
/-! S5 (k03): the bodies of a statement, by both ways. -/
namespace Pu
open PySem PySem.Spec PyProof.Rows L2
theorem bo_leaf (β : Bag) {w : Str} {as : List D} (h : Lf w as) : F_bodies_of β [.dat (.tuple (.str w :: as))] = some (β, .ok (.dat (.tuple []))) := by
  cases h <;> kernel_rfl
theorem bo_one (β : Bag) {w : Str} {as : List D} (h : On w as) (b : D) : F_bodies_of β [.dat (.tuple (.str w :: (as ++ [b])))] = some (β, .ok (.dat (.tuple [b]))) := by
  cases h <;> kernel_rfl
theorem bo_two (β : Bag) {w : Str} {as : List D} (h : Tw w as) (b c : D) : F_bodies_of β [.dat (.tuple (.str w :: (as ++ [b, c])))] = some (β, .ok (.dat (.tuple [b, c]))) := by
  cases h <;> kernel_rfl
theorem lb_leaf (β : Bag) {w : Str} {as : List D} (h : Lf w as) : F_law_bodies β [.dat (.tuple (.str w :: as))] = some (β, .ok (.dat (.tuple []))) := by
  cases h <;> kernel_rfl
theorem lb_one (β : Bag) {w : Str} {as : List D} (h : On w as) (b : D) : F_law_bodies β [.dat (.tuple (.str w :: (as ++ [b])))] = some (β, .ok (.dat (.tuple [b]))) := by
  cases h <;> kernel_rfl
theorem lb_two (β : Bag) {w : Str} {as : List D} (h : Tw w as) (b c : D) : F_law_bodies β [.dat (.tuple (.str w :: (as ++ [b, c])))] = some (β, .ok (.dat (.tuple [b, c]))) := by
  cases h <;> kernel_rfl
end Pu
/-! S6 (k03): nodes_of: a body's statements in order. -/
namespace Pu
open PySem PySem.Spec PyProof.Rows L2
def its (k : Nat) (xs : List D) : List D := xs.map fun o => .tuple [o, .int (k : Int)]
theorem its_len (k : Nat) (xs : List D) : (its k xs).length = xs.length := by unfold its; rw [List.length_map]
theorem its_app (k : Nat) (xs ys : List D) : its k (xs ++ ys) = its k xs ++ its k ys := by unfold its; rw [List.map_append]
def B.nd : Nat → B → List D
  | _, .nil => []
  | k, .leaf w as r => .tuple [.tuple (.str w :: as), .int (k : Int)] :: r.nd k
  | k, .one w as b r => .tuple [.tuple (.str w :: (as ++ [.tuple b.ds])), .int (k : Int)] :: (b.nd (k + 1) ++ r.nd k)
  | k, .two w as b c r => .tuple [.tuple (.str w :: (as ++ [.tuple b.ds, .tuple c.ds])), .int (k : Int)] :: (b.nd (k + 1) ++ (c.nd (k + 1) ++ r.nd k))
where
  go : Unit := ()
abbrev B.nds (b : B) (k : Nat) : List D := B.nd k b
theorem B.nd_len : ∀ (k : Nat) (b : B), (b.nd k).length = b.size
  | k, .nil => by rw [B.nd, B.size]; rfl
  | k, .leaf w as r => by rw [B.nd, B.size, List.length_cons, B.nd_len k r]; omega
  | k, .one w as b r => by rw [B.nd, B.size, List.length_cons, List.length_append, B.nd_len (k + 1) b, B.nd_len k r]; omega
  | k, .two w as b c r => by rw [B.nd, B.size, List.length_cons, List.length_append, List.length_append, B.nd_len (k + 1) b, B.nd_len (k + 1) c, B.nd_len k r]; omega
abbrev nf (x0 : Sl) (found stack : List D) (x3 x4 x5 : Sl) (β : Bag) : S := ⟨[x0, .own found, .own stack, x3, x4, x5, .no, .no], β⟩
theorem nd_inner (x0 : Sl) (found stack : List D) (d : D) (k : Nat) (x5 : Sl) (β : Bag) (xs acc : List D) (hl : acc.length + xs.length ≤ 1000) (x6 : D) :
    loopC [7] (Tg.put (.nm 7)) mYes (mTup [(mVar 7), (mBin dAdd (mVar 4) (mC (.int 1)))]) xs acc ⟨[x0, .own found, .own stack, .dat d, .dat (.int (k : Int)), x5, .dat x6, .no], β⟩ =
      some (⟨[x0, .own found, .own stack, .dat d, .dat (.int (k : Int)), x5, .dat x6, .no], β⟩, .ok (acc ++ its (k + 1) xs)) := by
  have h := loopC_map (vs := [7]) (p := Tg.put (.nm 7)) (me := mTup [(mVar 7), (mBin dAdd (mVar 4) (mC (.int 1)))]) (s0 := ⟨[x0, .own found, .own stack, .dat d, .dat (.int (k : Int)), x5, .dat x6, .no], β⟩) (inj := id) (g := fun o => .tuple [o, .int ((k + 1 : Nat) : Int)]) xs acc
    (fun o _ => ⟨⟨[x0, .own found, .own stack, .dat d, .dat (.int (k : Int)), x5, .dat x6, .dat o], β⟩, ⟨[x0, .own found, .own stack, .dat d, .dat (.int (k : Int)), x5, .dat x6, .dat o], β⟩, rfl, by
      (have e : ((k + 1 : Nat) : Int) = (k : Int) + 1 := by omega)
      rw [e]; rfl, rfl⟩) (by rw [sizeLine_eq]; omega)
  rw [List.map_id] at h
  exact h
theorem nd_outer (x0 : Sl) (found stack : List D) (d : D) (k : Nat) (x5 : Sl) (β : Bag) : ∀ (bs : List (List D)) (acc : List D), acc.length + bs.flatten.length ≤ 1000 →
    loopC2 [6, 7] [7] (Tg.put (.nm 6)) mYes (mSeq (mVar 6)) (Tg.put (.nm 7)) mYes (mTup [(mVar 7), (mBin dAdd (mVar 4) (mC (.int 1)))]) (bs.map .tuple) acc (nf x0 found stack (.dat d) (.dat (.int (k : Int))) x5 β) =
      some (nf x0 found stack (.dat d) (.dat (.int (k : Int))) x5 β, .ok (acc ++ its (k + 1) bs.flatten))
  | [], acc, _ => by
    show some (nf x0 found stack (.dat d) (.dat (.int (k : Int))) x5 β, Except.ok acc) = _
    rw [List.flatten_nil]
    unfold its
    simp
  | b :: bs, acc, hl => by
    rw [List.flatten_cons, List.length_append] at hl
    have h1 := nd_inner x0 found stack d k x5 β b acc (by omega) (.tuple b)
    have h2 := nd_outer x0 found stack d k x5 β bs (acc ++ its (k + 1) b) (by rw [List.length_append, its_len]; omega)
    rw [List.map_cons, List.flatten_cons, its_app, ← List.append_assoc, ← h2]
    refine (bind_ok (show Tg.put (.nm 6) (.tuple b) _ = some (⟨[x0, .own found, .own stack, .dat d, .dat (.int (k : Int)), x5, .dat (.tuple b), .no], β⟩, .ok ()) from rfl)).trans ?_
    refine (bind_ok (show calm mYes (⟨[x0, .own found, .own stack, .dat d, .dat (.int (k : Int)), x5, .dat (.tuple b), .no], β⟩ : S) = some (⟨[x0, .own found, .own stack, .dat d, .dat (.int (k : Int)), x5, .dat (.tuple b), .no], β⟩, .ok true) from rfl)).trans ?_
    rw [if_pos rfl]
    refine (bind_ok (show calm (mSeq (mVar 6)) (⟨[x0, .own found, .own stack, .dat d, .dat (.int (k : Int)), x5, .dat (.tuple b), .no], β⟩ : S) = some (⟨[x0, .own found, .own stack, .dat d, .dat (.int (k : Int)), x5, .dat (.tuple b), .no], β⟩, .ok b) from rfl)).trans ?_
    exact (bind_ok h1).trans rfl
def m_nbody : M Fl := (mThen (mAsg (.tup [(.nm 3), (.nm 4)]) (mPop 2)) (mThen (mExpr (mAppend 1 (mTup [(mVar 3), (mVar 4)]))) (mThen (mSet 5 (mComp2 [6, 7] [7] (mSeq (mCall F_bodies_of [(mVar 3)])) (.nm 6) mYes (mSeq (mVar 6)) (.nm 7) mYes (mTup [(mVar 7), (mBin dAdd (mVar 4) (mC (.int 1)))]))) (mExpr (mExtend 2 (mUn dRev (mVar 5)))))))
theorem pop_own {i : Nat} {s : S} {xs : List D} {d : D} (h : s.ρ[i]? = some (.own (xs ++ [d]))) : mPop i s = some ({ s with ρ := s.ρ.set i (.own xs) }, .ok (.dat d)) := by
  unfold mPop
  refine (bind_ok (show isOwn i s = some (s, .ok ()) from by unfold isOwn; simp only [h])).trans ?_
  unfold setOwn
  simp only [h, List.getLast?_append, List.getLast?_singleton, Option.some_or, Option.map_some, List.dropLast_concat]
theorem extend_ok {i : Nat} {m : M Rv} {s s1 : S} {ds es : List D} (h0 : isOwn i s = some (s, .ok ())) (h : m s = some (s1, .ok (.fresh es))) (h1 : s1.ρ[i]? = some (.own ds)) (hl : ds.length + es.length ≤ 100000) : mExpr (mExtend i m) s = some ({ s1 with ρ := s1.ρ.set i (.own (ds ++ es)) }, .ok .nx) := by
  refine (bind_ok (a := .dat .none) (s' := { s1 with ρ := s1.ρ.set i (.own (ds ++ es)) }) ?_).trans rfl
  refine (bind_ok h0).trans ((bind_ok h).trans ?_)
  show setOwn i _ s1 = _
  unfold setOwn
  simp only [h1, if_pos (show ds.length + es.length ≤ sizeLine by rw [sizeLine_eq]; omega)]
theorem nbody_ok (x0 : Sl) (found stack : List D) (d : D) (k : Nat) (x3 x4 x5 : Sl) (β : Bag) (bs : List (List D)) (hb : F_bodies_of β [.dat d] = some (β, .ok (.dat (.tuple (bs.map .tuple))))) (h1 : found.length ≤ 1000) (h2 : stack.length + bs.flatten.length ≤ 1000) :
    m_nbody (nf x0 found (stack ++ [.tuple [d, .int (k : Int)]]) x3 x4 x5 β) = some (nf x0 (found ++ [.tuple [d, .int (k : Int)]]) (stack ++ (its (k + 1) bs.flatten).reverse) (.dat d) (.dat (.int (k : Int))) (.own (its (k + 1) bs.flatten)) β, .ok .nx) := by
  unfold m_nbody
  have e1 : mAsg (.tup [(.nm 3), (.nm 4)]) (mPop 2) (nf x0 found (stack ++ [.tuple [d, .int (k : Int)]]) x3 x4 x5 β) = some (nf x0 found stack (.dat d) (.dat (.int (k : Int))) x5 β, .ok .nx) :=
    (bind_ok (pop_own (i := 2) rfl)).trans rfl
  have e2 : mExpr (mAppend 1 (mTup [(mVar 3), (mVar 4)])) (nf x0 found stack (.dat d) (.dat (.int (k : Int))) x5 β) = some (nf x0 (found ++ [.tuple [d, .int (k : Int)]]) stack (.dat d) (.dat (.int (k : Int))) x5 β, .ok .nx) :=
    append_ok (i := 1) (ds := found) (s1 := nf x0 found stack (.dat d) (.dat (.int (k : Int))) x5 β) rfl (show mTup [(mVar 3), (mVar 4)] (nf x0 found stack (.dat d) (.dat (.int (k : Int))) x5 β) = some (_, .ok (.dat (.tuple [d, .int (k : Int)]))) from rfl) rfl (by rw [sizeLine_eq]; omega)
  have e3 : mSet 5 (mComp2 [6, 7] [7] (mSeq (mCall F_bodies_of [(mVar 3)])) (.nm 6) mYes (mSeq (mVar 6)) (.nm 7) mYes (mTup [(mVar 7), (mBin dAdd (mVar 4) (mC (.int 1)))])) (nf x0 (found ++ [.tuple [d, .int (k : Int)]]) stack (.dat d) (.dat (.int (k : Int))) x5 β) =
      some (nf x0 (found ++ [.tuple [d, .int (k : Int)]]) stack (.dat d) (.dat (.int (k : Int))) (.own (its (k + 1) bs.flatten)) β, .ok .nx) := by
    refine setF_ok (s' := nf x0 (found ++ [.tuple [d, .int (k : Int)]]) stack (.dat d) (.dat (.int (k : Int))) x5 β) (i := 5) ?_
    refine (bind_ok (a := bs.map .tuple) (s' := nf x0 (found ++ [.tuple [d, .int (k : Int)]]) stack (.dat d) (.dat (.int (k : Int))) x5 β) ?_).trans ?_
    · exact (bind_ok (callD (ρ := [x0, .own (found ++ [.tuple [d, .int (k : Int)]]), .own stack, .dat d, .dat (.int (k : Int)), x5, .no, .no]) (as := [.dat d]) rfl hb)).trans rfl
    · exact (bind_ok (nd_outer x0 (found ++ [.tuple [d, .int (k : Int)]]) stack d k x5 β bs [] (by rw [List.length_nil]; omega))).trans (by rw [List.nil_append])
  rw [then_ok e1, then_ok e2, then_ok e3]
  have e4 : mUn dRev (mVar 5) (nf x0 (found ++ [.tuple [d, .int (k : Int)]]) stack (.dat d) (.dat (.int (k : Int))) (.own (its (k + 1) bs.flatten)) β) = some ((nf x0 (found ++ [.tuple [d, .int (k : Int)]]) stack (.dat d) (.dat (.int (k : Int))) (.own (its (k + 1) bs.flatten)) β), .ok (.fresh (its (k + 1) bs.flatten).reverse)) := un_ok (r := .slot 5) (d := .list (its (k + 1) bs.flatten)) (res := .fresh (its (k + 1) bs.flatten).reverse) rfl rfl rfl
  exact extend_ok (i := 2) (ds := stack) rfl e4 rfl (by rw [List.length_reverse, its_len]; omega)
theorem loopW_step {mt : M Bool} {mb : M Fl} {n : Nat} {s s1 : S} (ht : mt s = some (s, .ok true)) (hb : mb s = some (s1, .ok .nx)) : loopW mt mb (n + 1) s = loopW mt mb n s1 := by
  rw [loopW]
  exact (bind_ok ht).trans ((bind_ok hb).trans rfl)
theorem loopW_end {mt : M Bool} {mb : M Fl} {n : Nat} {s : S} (ht : mt s = some (s, .ok false)) : loopW mt mb (n + 1) s = some (s, .ok .nx) := by
  rw [loopW]
  exact (bind_ok ht).trans rfl
theorem tru_own {i : Nat} {s : S} {xs : List D} (h0 : mVar i s = some (s, .ok (.slot i))) (h : s.ρ[i]? = some (.own xs)) : mTru (mVar i) s = some (s, .ok (!xs.isEmpty)) := by
  unfold mTru
  refine (bind_ok h0).trans ((bind_ok (show peek (.slot i) s = some (s, .ok (.list xs)) from by unfold peek; simp only [h])).trans rfl)
theorem tru_more {i : Nat} {s : S} {xs : List D} {d : D} (h0 : mVar i s = some (s, .ok (.slot i))) (h : s.ρ[i]? = some (.own (xs ++ [d]))) : mTru (mVar i) s = some (s, .ok true) := by
  rw [tru_own h0 h]
  cases xs <;> rfl
theorem its_cons_rev (k : Nat) (d : D) (r : List D) (rest : List D) : rest ++ (its k (d :: r)).reverse = (rest ++ (its k r).reverse) ++ [.tuple [d, .int (k : Int)]] := by
  unfold its
  rw [List.map_cons, List.reverse_cons, List.append_assoc]
theorem nodes_loop (x0 : Sl) (β : Bag) : ∀ (b : B) (n : Nat), Ok b n → ∀ (k : Nat) (found rest : List D) (x3 x4 x5 : Sl) (fuel : Nat), found.length + b.size ≤ 1000 → rest.length + b.size ≤ 1000 →
    ∃ y3 y4 y5, loopW (mTru (mVar 2)) m_nbody (fuel + b.size) (nf x0 found (rest ++ (its k b.ds).reverse) x3 x4 x5 β) = loopW (mTru (mVar 2)) m_nbody fuel (nf x0 (found ++ b.nd k) rest y3 y4 y5 β)
  | .nil, n, h, k, found, rest, x3, x4, x5, fuel, hf, hr => ⟨x3, x4, x5, by rw [B.nd, B.ds, B.size]; unfold its; simp⟩
  | .leaf w as r, n, h, k, found, rest, x3, x4, x5, fuel, hf, hr => by
    rw [B.size] at hf hr
    have lr := len_size r
    have st := nbody_ok x0 found (rest ++ (its k r.ds).reverse) (.tuple (.str w :: as)) k x3 x4 x5 β [] (bo_leaf β h.1) (by omega) (by rw [List.length_append, List.length_reverse, its_len, B.ds_len]; simp; omega)
    obtain ⟨y3, y4, y5, ih⟩ := nodes_loop x0 β r n h.2.2 k (found ++ [.tuple [.tuple (.str w :: as), .int (k : Int)]]) rest (.dat (.tuple (.str w :: as))) (.dat (.int (k : Int))) (.own []) fuel (by rw [List.length_append]; simp; omega) (by omega)
    refine ⟨y3, y4, y5, ?_⟩
    rw [B.ds, B.nd, B.size, its_cons_rev, show fuel + (1 + r.size) = (fuel + r.size) + 1 by omega, loopW_step (tru_more (i := 2) rfl rfl) st]
    rw [show found ++ PyData.tuple [PyData.tuple (PyData.str w :: as), PyData.int (k : Int)] :: B.nd k r = (found ++ [PyData.tuple [PyData.tuple (PyData.str w :: as), PyData.int (k : Int)]]) ++ B.nd k r by simp]
    rw [← ih]
    simp [its]
  | .one w as b r, n, h, k, found, rest, x3, x4, x5, fuel, hf, hr => by
    rw [B.size] at hf hr
    obtain ⟨h0, h1, h2, ⟨m, rfl, h3⟩, h4⟩ := h
    have lr := len_size r
    have lb := len_size b
    have st := nbody_ok x0 found (rest ++ (its k r.ds).reverse) (.tuple (.str w :: (as ++ [.tuple b.ds]))) k x3 x4 x5 β [b.ds] (bo_one β h0 _) (by omega) (by rw [List.length_append, List.length_reverse, its_len, B.ds_len, List.flatten_cons, List.flatten_nil, List.append_nil, B.ds_len]; omega)
    rw [List.flatten_cons, List.flatten_nil, List.append_nil] at st
    obtain ⟨z3, z4, z5, ib⟩ := nodes_loop x0 β b m h3 (k + 1) (found ++ [.tuple [.tuple (.str w :: (as ++ [.tuple b.ds])), .int (k : Int)]]) (rest ++ (its k r.ds).reverse) (.dat (.tuple (.str w :: (as ++ [.tuple b.ds])))) (.dat (.int (k : Int))) (.own (its (k + 1) b.ds)) (fuel + r.size) (by rw [List.length_append]; simp; omega) (by rw [List.length_append, List.length_reverse, its_len, B.ds_len]; omega)
    obtain ⟨y3, y4, y5, ih⟩ := nodes_loop x0 β r (m + 1) h4 k (found ++ [.tuple [.tuple (.str w :: (as ++ [.tuple b.ds])), .int (k : Int)]] ++ b.nd (k + 1)) rest z3 z4 z5 fuel (by rw [List.length_append, List.length_append, B.nd_len]; simp; omega) (by omega)
    refine ⟨y3, y4, y5, ?_⟩
    rw [B.ds, B.nd, B.size, its_cons_rev, show fuel + (1 + b.size + r.size) = (fuel + r.size + b.size) + 1 by omega, loopW_step (tru_more (i := 2) rfl rfl) st, ib, ih]
    simp
  | .two w as b c r, n, h, k, found, rest, x3, x4, x5, fuel, hf, hr => by
    rw [B.size] at hf hr
    obtain ⟨h0, h1, h2, h2', ⟨m, rfl, h3, h3'⟩, h4⟩ := h
    have lr := len_size r
    have lb := len_size b
    have lc := len_size c
    have st := nbody_ok x0 found (rest ++ (its k r.ds).reverse) (.tuple (.str w :: (as ++ [.tuple b.ds, .tuple c.ds]))) k x3 x4 x5 β [b.ds, c.ds] (bo_two β h0 _ _) (by omega) (by rw [List.length_append, List.length_reverse, its_len, B.ds_len, List.flatten_cons, List.flatten_cons, List.flatten_nil, List.append_nil, List.length_append, B.ds_len, B.ds_len]; omega)
    rw [List.flatten_cons, List.flatten_cons, List.flatten_nil, List.append_nil, its_app, List.reverse_append, ← List.append_assoc] at st
    obtain ⟨z3, z4, z5, ib⟩ := nodes_loop x0 β b m h3 (k + 1) (found ++ [.tuple [.tuple (.str w :: (as ++ [.tuple b.ds, .tuple c.ds])), .int (k : Int)]]) (rest ++ (its k r.ds).reverse ++ (its (k + 1) c.ds).reverse) (.dat (.tuple (.str w :: (as ++ [.tuple b.ds, .tuple c.ds])))) (.dat (.int (k : Int))) (.own (its (k + 1) b.ds ++ its (k + 1) c.ds)) (fuel + r.size + c.size) (by rw [List.length_append]; simp; omega) (by rw [List.length_append, List.length_append, List.length_reverse, List.length_reverse, its_len, its_len, B.ds_len, B.ds_len]; omega)
    obtain ⟨u3, u4, u5, ic⟩ := nodes_loop x0 β c m h3' (k + 1) (found ++ [.tuple [.tuple (.str w :: (as ++ [.tuple b.ds, .tuple c.ds])), .int (k : Int)]] ++ b.nd (k + 1)) (rest ++ (its k r.ds).reverse) z3 z4 z5 (fuel + r.size) (by rw [List.length_append, List.length_append, B.nd_len]; simp; omega) (by rw [List.length_append, List.length_reverse, its_len, B.ds_len]; omega)
    obtain ⟨y3, y4, y5, ih⟩ := nodes_loop x0 β r (m + 1) h4 k (found ++ [.tuple [.tuple (.str w :: (as ++ [.tuple b.ds, .tuple c.ds])), .int (k : Int)]] ++ b.nd (k + 1) ++ c.nd (k + 1)) rest u3 u4 u5 fuel (by rw [List.length_append, List.length_append, List.length_append, B.nd_len, B.nd_len]; simp; omega) (by omega)
    refine ⟨y3, y4, y5, ?_⟩
    rw [B.ds, B.nd, B.size, its_cons_rev, show fuel + (1 + b.size + c.size + r.size) = (fuel + r.size + c.size + b.size) + 1 by omega, loopW_step (tru_more (i := 2) rfl rfl) st, ib, ic, ih]
    simp
end Pu
/-! S7 (k03): how many statements a body holds, by both ways. -/
namespace Pu
open PySem PySem.Spec PyProof.Rows L2
theorem nodes_ok (β : Bag) {b : B} {n : Nat} (h : Ok b n) (hs : b.size ≤ 400) : F_nodes_of β [.dat (.tuple b.ds)] = some (β, .ok (.fresh (b.nd 1))) := by
  have lb := len_size b
  have e1 : mPar 1 2 (mLst []) (mComp [3] (mSeq (mUn dRev (mVar 0))) (.nm 3) mYes (mTup [(mVar 3), (mC (.int 1))])) ⟨[.dat (.tuple b.ds), .no, .no, .no, .no, .no, .no, .no], β⟩ = some (nf (.dat (.tuple b.ds)) [] ([] ++ (its 1 b.ds).reverse) .no .no .no β, .ok .nx) := by
    have ec : mComp [3] (mSeq (mUn dRev (mVar 0))) (.nm 3) mYes (mTup [(mVar 3), (mC (.int 1))]) ⟨[.dat (.tuple b.ds), .no, .no, .no, .no, .no, .no, .no], β⟩ = some (⟨[.dat (.tuple b.ds), .no, .no, .no, .no, .no, .no, .no], β⟩, .ok (.fresh ((its 1 b.ds).reverse))) := by
      have z := comp_ok b.ds.reverse id (fun o => .tuple [o, .int ((1 : Nat) : Int)]) (vs := [3]) (mi := mSeq (mUn dRev (mVar 0))) (t := .nm 3) (me := mTup [(mVar 3), (mC (.int 1))]) (s := ⟨[.dat (.tuple b.ds), .no, .no, .no, .no, .no, .no, .no], β⟩) (s1 := ⟨[.dat (.tuple b.ds), .no, .no, .no, .no, .no, .no, .no], β⟩)
        (by rw [List.map_id]; rfl) rfl (fun x _ => ⟨_, _, rfl, rfl, rfl⟩) (by rw [List.length_reverse, B.ds_len, sizeLine_eq]; omega) rfl
      rw [z]
      unfold its
      rw [List.map_reverse]
    exact (bind_ok (show mLst [] _ = some (⟨[.dat (.tuple b.ds), .no, .no, .no, .no, .no, .no, .no], β⟩, .ok (.fresh [])) from rfl)).trans ((bind_ok ec).trans rfl)
  obtain ⟨y3, y4, y5, e2⟩ := nodes_loop (.dat (.tuple b.ds)) β b n h 1 [] [] .no .no .no (500 - b.size) (by simp; omega) (by simp; omega)
  have e3 : loopW (mTru (mVar 2)) m_nbody 500 (nf (.dat (.tuple b.ds)) [] ([] ++ (its 1 b.ds).reverse) .no .no .no β) = some (nf (.dat (.tuple b.ds)) (b.nd 1) [] y3 y4 y5 β, .ok .nx) := by
    rw [show (500 : Nat) = (500 - b.size) + b.size by omega, e2, show 500 - b.size = (499 - b.size) + 1 by omega, loopW_end (tru_own (i := 2) (xs := []) rfl rfl)]
    rw [List.nil_append]
  refine fnF_at (s := nf (.dat (.tuple b.ds)) (b.nd 1) [] y3 y4 y5 β) (r := .slot 1) ⟨[.dat (.tuple b.ds), .no, .no, .no, .no, .no, .no, .no], β⟩ rfl ?_ rfl
  exact (then_ok e1).trans ((then_ok e3).trans rfl)
theorem ints_map {α : Type} (f : α → Int) : ∀ xs : List α, intsD (xs.map fun x => PyData.int (f x)) = some (xs.map f)
  | [] => rfl
  | x :: xs => by rw [List.map_cons, intsD, ints_map f xs]; rfl
/-- sum([.. for x in xs]) -/
theorem sum_ok {α : Type} (xs : List α) (inj : α → D) (f : α → Int) {vs : List Nat} {mi : M (List D)} {t : Tg} {me : M Rv} {s s1 : S} (hi : mi s = some (s1, .ok (xs.map inj))) (hf : freeS s1.ρ vs = true)
    (step : ∀ x ∈ xs, ∃ s2 s3, t.put (inj x) { s1 with ρ := wipeS s1.ρ vs } = some (s2, .ok ()) ∧ me s2 = some (s3, .ok (.dat (.int (f x)))) ∧ ({ s3 with ρ := wipeS s3.ρ vs } : S) = { s1 with ρ := wipeS s1.ρ vs })
    (hl : xs.length ≤ sizeLine) (hb : backS s1.ρ (wipeS s1.ρ vs) vs = s1.ρ) : mUn dSum (mComp vs mi t mYes me) s = some (s1, .ok (.dat (.int (xs.map f).sum))) := by
  have h := comp_ok xs inj (fun x => .int (f x)) hi hf step hl hb
  refine un_ok (r := .fresh (xs.map fun x => PyData.int (f x))) (d := .list (xs.map fun x => PyData.int (f x))) (res := .dat (.int (xs.map f).sum)) h rfl ?_
  show (intsD _).map _ = _
  rw [ints_map]
  rfl
theorem loopC_cons {vs : List Nat} {p : D → M Unit} {me : M Rv} {d y : D} {ds acc : List D} {s0 s2 s3 : S} (h1 : p d s0 = some (s2, .ok ())) (h2 : me s2 = some (s3, .ok (.dat y))) (h3 : ({ s3 with ρ := wipeS s3.ρ vs } : S) = s0) (hl : acc.length < 100000) :
    loopC vs p mYes me (d :: ds) acc s0 = loopC vs p mYes me ds (acc ++ [y]) s0 := by
  have e1 : calm mYes s2 = some (s2, .ok true) := rfl
  have e2 : calm me s2 = some (s3, .ok (.dat y)) := by unfold calm; rw [h2]
  rw [loopC]
  unfold M.bind
  simp only [h1, e1, e2, if_true, retain]
  rw [if_pos (by rw [sizeLine_eq]; omega), h3]
def B.szs : B → List Int
  | .nil => []
  | .leaf _ _ r => 1 :: r.szs
  | .one _ _ b r => (1 + (b.size : Int)) :: r.szs
  | .two _ _ b c r => (1 + (b.size + c.size : Int)) :: r.szs
theorem B.szs_len : ∀ b : B, b.szs.length = b.len
  | .nil => rfl
  | .leaf _ _ r => by rw [B.szs, B.len, List.length_cons, r.szs_len]
  | .one _ _ _ r => by rw [B.szs, B.len, List.length_cons, r.szs_len]
  | .two _ _ _ _ r => by rw [B.szs, B.len, List.length_cons, r.szs_len]
theorem B.szs_sum : ∀ b : B, b.szs.sum = (b.size : Int)
  | .nil => rfl
  | .leaf _ _ r => by rw [B.szs, B.size, List.sum_cons, r.szs_sum]; omega
  | .one _ _ _ r => by rw [B.szs, B.size, List.sum_cons, r.szs_sum]; omega
  | .two _ _ _ _ r => by rw [B.szs, B.size, List.sum_cons, r.szs_sum]; omega
def SzF (F : Fn) (n : Nat) : Prop := ∀ (β : Bag) (b : B), Ok b n → b.size ≤ 400 → F β [.dat (.tuple b.ds)] = some (β, .ok (.dat (.int (b.size : Int))))
abbrev m_sz1 (Fa : Fn) : M Rv := mBin dAdd (mC (.int 1)) (mUn dSum (mComp [2] (mSeq (mCall F_law_bodies [(mVar 1)])) (.nm 2) mYes (mCall Fa [(mVar 2)])))
theorem sz_st {Fa : Fn} (β : Bag) (x0 : Sl) (d : D) (bs : List B) (hb : F_law_bodies β [.dat d] = some (β, .ok (.dat (.tuple (bs.map fun b => .tuple b.ds))))) (hF : ∀ b ∈ bs, Fa β [.dat (.tuple b.ds)] = some (β, .ok (.dat (.int (b.size : Int))))) (hl : bs.length ≤ 2) :
    m_sz1 Fa ⟨[x0, .dat d, .no], β⟩ = some (⟨[x0, .dat d, .no], β⟩, .ok (.dat (.int (1 + (bs.map fun b => (b.size : Int)).sum)))) := by
  refine binD (d2 := .int (bs.map fun b => (b.size : Int)).sum) (show mC (.int 1) _ = some (⟨[x0, .dat d, .no], β⟩, .ok (.dat (.int 1))) from rfl) ?_ rfl
  refine sum_ok bs (fun b => .tuple b.ds) (fun b => (b.size : Int)) (s := ⟨[x0, .dat d, .no], β⟩) (s1 := ⟨[x0, .dat d, .no], β⟩) ?_ rfl (fun b hb => ⟨⟨[x0, .dat d, .dat (.tuple b.ds)], β⟩, ⟨[x0, .dat d, .dat (.tuple b.ds)], β⟩, rfl, ?_, rfl⟩) (by rw [sizeLine_eq]; omega) rfl
  · exact (bind_ok (callD (ρ := [x0, .dat d, .no]) (as := [.dat d]) rfl hb)).trans rfl
  · exact callD (ρ := [x0, .dat d, .dat (.tuple b.ds)]) (as := [.dat (.tuple b.ds)]) rfl (hF b hb)
theorem sz_loop {Fa : Fn} (β : Bag) (x0 : Sl) : ∀ (b : B) (n : Nat), Ok b n → b.size ≤ 400 → (∀ m, n = m + 1 → SzF Fa m) → ∀ acc : List D, acc.length + b.len ≤ 1000 →
    loopC [1] (Tg.put (.nm 1)) mYes (m_sz1 Fa) b.ds acc ⟨[x0, .no, .no], β⟩ = some (⟨[x0, .no, .no], β⟩, .ok (acc ++ b.szs.map .int))
  | .nil, n, h, hs, hF, acc, hl => by rw [B.ds, B.szs]; show some (_, Except.ok acc) = _; simp
  | .leaf w as r, n, h, hs, hF, acc, hl => by
    rw [B.len] at hl
    rw [B.size] at hs
    have st := sz_st (Fa := Fa) β x0 (.tuple (.str w :: as)) [] (lb_leaf β h.1) (by simp) (by simp)
    rw [B.ds]
    refine (loopC_cons (vs := [1]) (p := Tg.put (.nm 1)) (acc := acc) (s0 := ⟨[x0, .no, .no], β⟩) (s2 := ⟨[x0, .dat (.tuple (.str w :: as)), .no], β⟩) rfl st rfl (by omega)).trans ?_
    rw [sz_loop β x0 r n h.2.2 (by omega) hF _ (by rw [List.length_append]; simp; omega)]
    rw [B.szs]
    simp
  | .one w as b r, n, h, hs, hF, acc, hl => by
    rw [B.len] at hl
    rw [B.size] at hs
    obtain ⟨h0, h1, h2, ⟨m, rfl, h3⟩, h4⟩ := h
    have st := sz_st (Fa := Fa) β x0 (.tuple (.str w :: (as ++ [.tuple b.ds]))) [b] (lb_one β h0 _) (fun c hc => by rw [List.mem_singleton.mp hc]; exact hF m rfl β b h3 (by omega)) (by simp)
    rw [B.ds]
    refine (loopC_cons (vs := [1]) (p := Tg.put (.nm 1)) (acc := acc) (s0 := ⟨[x0, .no, .no], β⟩) (s2 := ⟨[x0, .dat (.tuple (.str w :: (as ++ [.tuple b.ds]))), .no], β⟩) rfl st rfl (by omega)).trans ?_
    rw [sz_loop β x0 r _ h4 (by omega) hF _ (by rw [List.length_append]; simp; omega)]
    rw [B.szs]
    simp
  | .two w as b c r, n, h, hs, hF, acc, hl => by
    rw [B.len] at hl
    rw [B.size] at hs
    obtain ⟨h0, h1, h2, h2', ⟨m, rfl, h3, h3'⟩, h4⟩ := h
    have st := sz_st (Fa := Fa) β x0 (.tuple (.str w :: (as ++ [.tuple b.ds, .tuple c.ds]))) [b, c] (lb_two β h0 _ _) (fun e he => by
      simp only [List.mem_cons, List.not_mem_nil, or_false] at he
      rcases he with rfl | rfl
      · exact hF m rfl β _ h3 (by omega)
      · exact hF m rfl β _ h3' (by omega)) (by simp)
    rw [B.ds]
    refine (loopC_cons (vs := [1]) (p := Tg.put (.nm 1)) (acc := acc) (s0 := ⟨[x0, .no, .no], β⟩) (s2 := ⟨[x0, .dat (.tuple (.str w :: (as ++ [.tuple b.ds, .tuple c.ds]))), .no], β⟩) rfl st rfl (by omega)).trans ?_
    rw [sz_loop β x0 r _ h4 (by omega) hF _ (by rw [List.length_append]; simp; omega)]
    rw [B.szs]
    simp
theorem size_ok : ∀ n : Nat, ∀ k : Nat, n < k → SzF (FF_law_size k) n
  | n, 0, h => by omega
  | n, k + 1, h => fun β b hb hs => by
    have lb := len_size b
    refine fn_at (s := ⟨[.dat (.tuple b.ds), .no, .no], β⟩) ⟨[.dat (.tuple b.ds), .no, .no], β⟩ rfl (ret_ok ?_)
    have hc : mComp [1] (mSeq (mVar 0)) (.nm 1) mYes (m_sz1 (FF_law_size k)) ⟨[.dat (.tuple b.ds), .no, .no], β⟩ = some (⟨[.dat (.tuple b.ds), .no, .no], β⟩, .ok (.fresh (b.szs.map .int))) := by
      refine (bind_ok (show mSeq (mVar 0) _ = some (⟨[.dat (.tuple b.ds), .no, .no], β⟩, .ok b.ds) from rfl)).trans ?_
      have z := sz_loop (Fa := FF_law_size k) β (.dat (.tuple b.ds)) b n hb hs (fun m hm => by subst hm; exact size_ok m k (by omega)) [] (by simp; omega)
      exact (bind_ok z).trans (by rw [List.nil_append]; rfl)
    refine un_ok (r := .fresh (b.szs.map .int)) (d := .list (b.szs.map .int)) (res := .dat (.int (b.size : Int))) hc rfl ?_
    show (intsD _).map _ = _
    have := ints_map id b.szs
    rw [List.map_id] at this
    rw [show (b.szs.map PyData.int) = b.szs.map (fun x => PyData.int (id x)) from rfl, this, Option.map_some, b.szs_sum]
theorem law_size_ok (β : Bag) {b : B} {n : Nat} (h : Ok b n) (hn : n ≤ 4) (hs : b.size ≤ 400) : F_law_size β [.dat (.tuple b.ds)] = some (β, .ok (.dat (.int (b.size : Int)))) := size_ok n 5 (by omega) β b h hs
end Pu
/-! S8 (k03): the law's laying out. -/
namespace Pu
open PySem PySem.Spec PyProof.Rows L2
def B.isNil : B → Bool
  | .nil => true
  | _ => false
theorem plainAll_app : ∀ xs ys : List D, PyData.plainAll (xs ++ ys) = (PyData.plainAll xs && PyData.plainAll ys)
  | [], ys => by simp [PyData.plainAll]
  | x :: xs, ys => by rw [List.cons_append, PyData.plainAll, PyData.plainAll, plainAll_app xs ys, Bool.and_assoc]
theorem depthAll_app : ∀ xs ys : List D, PyData.depthAll (xs ++ ys) = max (PyData.depthAll xs) (PyData.depthAll ys)
  | [], ys => by simp [PyData.depthAll]
  | x :: xs, ys => by rw [List.cons_append, PyData.depthAll, PyData.depthAll, depthAll_app xs ys, Nat.max_assoc]
theorem ats_plain {as : List D} (h : ∀ a ∈ as, atm a) : PyData.plainAll as = true ∧ PyData.depthAll as ≤ 2 := by
  obtain ⟨h1, _, _, _, h5, _⟩ := nice_all h
  exact ⟨h1, h5⟩
theorem ok_plain : ∀ {b : B} {n : Nat}, Ok b n → PyData.plainAll b.ds = true ∧ PyData.depthAll b.ds ≤ 3 + 2 * n
  | .nil, n, h => by simp [B.ds, PyData.plainAll, PyData.depthAll]
  | .leaf w as r, n, h => by
    obtain ⟨p1, p2⟩ := ok_plain h.2.2
    obtain ⟨q1, q2⟩ := ats_plain h.2.1
    simp only [B.ds, PyData.plainAll, PyData.depthAll, PyData.plain, PyData.depth, p1, q1, Bool.and_self, true_and]
    omega
  | .one w as b r, n, h => by
    obtain ⟨h0, h1, h2, ⟨m, rfl, h3⟩, h4⟩ := h
    obtain ⟨p1, p2⟩ := ok_plain h4
    obtain ⟨q1, q2⟩ := ats_plain h1
    obtain ⟨r1, r2⟩ := ok_plain h3
    simp only [B.ds, PyData.plainAll, PyData.depthAll, PyData.plain, PyData.depth, plainAll_app, depthAll_app, p1, q1, r1, Bool.and_self, true_and]
    omega
  | .two w as b c r, n, h => by
    obtain ⟨h0, h1, h2, h2', ⟨m, rfl, h3, h3'⟩, h4⟩ := h
    obtain ⟨p1, p2⟩ := ok_plain h4
    obtain ⟨q1, q2⟩ := ats_plain h1
    obtain ⟨r1, r2⟩ := ok_plain h3
    obtain ⟨s1, s2⟩ := ok_plain h3'
    simp only [B.ds, PyData.plainAll, PyData.depthAll, PyData.plain, PyData.depth, plainAll_app, depthAll_app, p1, q1, r1, s1, Bool.and_self, true_and]
    omega
theorem ok_okD {b : B} {n : Nat} (h : Ok b n) (hn : n ≤ 10) : okD (.tuple b.ds) = true := by
  obtain ⟨p1, p2⟩ := ok_plain h
  unfold okD
  have h1 : (PyData.tuple b.ds).plain = true := by simpa only [PyData.plain] using p1
  have h2 : (PyData.tuple b.ds).depth ≤ 50 := by simp only [PyData.depth]; omega
  rw [h1, decide_eq_true h2]
  rfl
theorem ne_nil {b : B} {n : Nat} (h : Ok b n) (hn : n ≤ 10) : cNe (.tuple b.ds) (.tuple []) = some (.dat (.bool (!b.isNil))) := by
  have h2 : okD (.tuple []) = true := by decide
  show ((dEqB (.tuple b.ds) (.tuple [])).map (!·)).map (fun k => Rs.dat (.bool k)) = _
  rw [show dEqB (.tuple b.ds) (.tuple []) = (if okD (.tuple b.ds) && okD (.tuple []) then some (PyData.eqv (.tuple b.ds) (.tuple [])) else none) from rfl, ok_okD h hn, h2]
  cases b <;> rfl
structure En where
  d : D
  at_ : Nat
  fs : List Nat
  later : Nat
def En.tup (e : En) : D := .tuple [e.d, .int (e.at_ : Int), .list (e.fs.map fun (i : Nat) => .int (i : Int)), .int (e.later : Int)]
def fsOf : List B → Nat → Nat → List Nat
  | [], _, _ => []
  | b :: bs, f, k => (if b.isNil then k else f) :: fsOf bs (f + b.size) k
def B.laid : B → Nat → Nat → List En
  | .nil, _, _ => []
  | .leaf w as r, f, e => ⟨.tuple (.str w :: as), f, [], if r.isNil then e else f + 1⟩ :: r.laid (f + 1) e
  | .one w as b r, f, e => ⟨.tuple (.str w :: (as ++ [.tuple b.ds])), f, fsOf [b] (f + 1) f, if r.isNil then e else f + 1 + b.size⟩ :: (b.laid (f + 1) f ++ r.laid (f + 1 + b.size) e)
  | .two w as b c r, f, e => ⟨.tuple (.str w :: (as ++ [.tuple b.ds, .tuple c.ds])), f, fsOf [b, c] (f + 1) (if r.isNil then e else f + 1 + (b.size + c.size)), if r.isNil then e else f + 1 + (b.size + c.size)⟩ ::
      (b.laid (f + 1) (if r.isNil then e else f + 1 + (b.size + c.size)) ++ (c.laid (f + 1 + b.size) (if r.isNil then e else f + 1 + (b.size + c.size)) ++ r.laid (f + 1 + (b.size + c.size)) e))
def insOf : List B → Nat → Nat → List En
  | [], _, _ => []
  | b :: bs, f, k => b.laid f k ++ insOf bs (f + b.size) k
theorem B.laid_len : ∀ (b : B) (f e : Nat), (b.laid f e).length = b.size
  | .nil, f, e => rfl
  | .leaf w as r, f, e => by rw [B.laid, B.size, List.length_cons, B.laid_len r]; omega
  | .one w as b r, f, e => by rw [B.laid, B.size, List.length_cons, List.length_append, B.laid_len b, B.laid_len r]; omega
  | .two w as b c r, f, e => by rw [B.laid, B.size, List.length_cons, List.length_append, List.length_append, B.laid_len b, B.laid_len c, B.laid_len r]; omega
def szsOf (bs : List B) : Nat := (bs.map B.size).sum
theorem insOf_len : ∀ (bs : List B) (f k : Nat), (insOf bs f k).length = szsOf bs
  | [], f, k => rfl
  | b :: bs, f, k => by rw [insOf, List.length_append, B.laid_len, insOf_len bs]; unfold szsOf; rw [List.map_cons, List.sum_cons]
theorem fsOf_len : ∀ (bs : List B) (f k : Nat), (fsOf bs f k).length = bs.length
  | [], f, k => rfl
  | b :: bs, f, k => by rw [fsOf, List.length_cons, List.length_cons, fsOf_len bs]
def LdF (F : Fn) (n : Nat) : Prop := ∀ (β : Bag) (b : B) (f e : Nat), Ok b n → b.size ≤ 400 → F β [.dat (.tuple b.ds), .dat (.int (f : Int)), .dat (.int (e : Int))] = some (β, .ok (.fresh ((b.laid f e).map En.tup)))
def m_lin (Fa : Fn) : M Fl := (mThen (mExpr (mAppend 11 (mIf (mIs (mBin cNe (mVar 13) (mTup []))) (mVar 10) (mVar 12)))) (mThen (mSet 9 (mBin dAdd (mVar 9) (mCall Fa [(mVar 13), (mVar 10), (mVar 12)]))) (mSet 10 (mBin dAdd (mVar 10) (mCall F_law_size [(mVar 13)])))))
def m_ld (Fa : Fn) : M Fl := (mThen (mSet 7 (mBin dAdd (mBin dAdd (mVar 4) (mC (.int 1))) (mUn dSum (mComp [13] (mSeq (mCall F_law_bodies [(mVar 6)])) (.nm 13) mYes (mCall F_law_size [(mVar 13)]))))) (mThen (mSet 8 (mIf (mIs (mBin cLt (mBin dAdd (mVar 5) (mC (.int 1))) (mUn dLenD (mVar 0)))) (mVar 7) (mVar 2))) (mThen (mParL 9 10 11 [(mLst []), (mBin dAdd (mVar 4) (mC (.int 1))), (mLst [])]) (mThen (mSet 12 (mIf (mIs (mBin cIn (mBin dIx (mVar 6) (mC (.int 0))) (mTup [(mC (.str "while")), (mC (.str "loop"))]))) (mVar 4) (mVar 8))) (mThen (mFor (mSeq (mCall F_law_bodies [(mVar 6)])) (.nm 13) (m_lin Fa)) (mThen (mSet 3 (mBin dAdd (mBin dAdd (mVar 3) (mLst [(mTup [(mVar 6), (mVar 4), (mVar 11), (mVar 8)])])) (mVar 9))) (mSet 4 (mVar 7))))))))
abbrev nt (i : Nat) : D := .int (i : Int)
abbrev ntl (xs : List Nat) : List D := xs.map fun (i : Nat) => .int (i : Int)
/-- the frame: 0 body, 1 first, 2 behind, 3 found, 4 at, 5 k, 6 one, 7 after, 8 later, 9 inners, 10 begin, 11 firsts, 12 back, 13 inner -/
abbrev lf (bd : D) (f0 e : Nat) (found : List D) (a : Nat) (x5 x6 x7 x8 x9 x10 x11 x12 x13 : Sl) (β : Bag) : S := ⟨[.dat bd, .dat (nt f0), .dat (nt e), .own found, .dat (nt a), x5, x6, x7, x8, x9, x10, x11, x12, x13], β⟩
def isFr (x : Sl) : Prop := x = .no ∨ ∃ d, x = .dat d
/-- the bodies of a statement, one by one -/
abbrev LdA (Fa : Fn) (β : Bag) (n : Nat) (bs : List B) : Prop := ∀ b ∈ bs, (Ok b n ∧ b.size ≤ 400) ∧ ∀ g k : Nat, Fa β [.dat (.tuple b.ds), .dat (.int (g : Int)), .dat (.int (k : Int))] = some (β, .ok (.fresh ((b.laid g k).map En.tup)))
theorem lin_loop {Fa : Fn} {n : Nat} (hn : n ≤ 4) (bd : D) (f0 e : Nat) (found : List D) (a : Nat) (x5 x6 x7 x8 : Sl) (k : Nat) (β : Bag) : ∀ (bs : List B) (ins : List D) (g : Nat) (fs : List D) (x13 : Sl), LdA Fa β n bs → isFr x13 → ins.length + szsOf bs ≤ 1000 → fs.length + bs.length ≤ 1000 →
    ∃ (g' : Nat) (y13 : Sl), isFr y13 ∧ loopF (Tg.put (.nm 13)) (m_lin Fa) (bs.map fun b => .tuple b.ds) (lf bd f0 e found a x5 x6 x7 x8 (.own ins) (.dat (nt g)) (.own fs) (.dat (nt k)) x13 β) =
      some (lf bd f0 e found a x5 x6 x7 x8 (.own (ins ++ (insOf bs g k).map En.tup)) (.dat (nt g')) (.own (fs ++ ntl (fsOf bs g k))) (.dat (nt k)) y13 β, .ok .nx)
  | [], ins, g, fs, x13, _, hx, _, _ => ⟨g, x13, hx, by rw [insOf, fsOf]; simp only [List.map_nil, List.append_nil]; rfl⟩
  | b :: bs, ins, g, fs, x13, hb, hx, hl, hl2 => by
    obtain ⟨⟨ob, sb⟩, hF⟩ := hb b (by simp)
    unfold szsOf at hl
    rw [List.map_cons, List.sum_cons] at hl
    rw [List.length_cons] at hl2
    have hl' : ins.length + b.size + szsOf bs ≤ 1000 := by unfold szsOf; omega
    obtain ⟨g', y13, hy, ih⟩ := lin_loop hn bd f0 e found a x5 x6 x7 x8 k β bs (ins ++ (b.laid g k).map En.tup) (g + b.size) (fs ++ [nt (if b.isNil then k else g)]) (.dat (.tuple b.ds)) (fun c hc => hb c (by simp [hc])) (.inr ⟨_, rfl⟩) (by rw [List.length_append, List.length_map, B.laid_len]; omega) (by rw [List.length_append]; simp; omega)
    refine ⟨g', y13, hy, ?_⟩
    have s0 : Tg.put (.nm 13) (.tuple b.ds) (lf bd f0 e found a x5 x6 x7 x8 (.own ins) (.dat (nt g)) (.own fs) (.dat (nt k)) x13 β) = some (lf bd f0 e found a x5 x6 x7 x8 (.own ins) (.dat (nt g)) (.own fs) (.dat (nt k)) (.dat (.tuple b.ds)) β, .ok ()) := rfl
    have s1 : mExpr (mAppend 11 (mIf (mIs (mBin cNe (mVar 13) (mTup []))) (mVar 10) (mVar 12))) (lf bd f0 e found a x5 x6 x7 x8 (.own ins) (.dat (nt g)) (.own fs) (.dat (nt k)) (.dat (.tuple b.ds)) β) = some (lf bd f0 e found a x5 x6 x7 x8 (.own ins) (.dat (nt g)) (.own (fs ++ [nt (if b.isNil then k else g)])) (.dat (nt k)) (.dat (.tuple b.ds)) β, .ok .nx) := by
      refine append_ok (i := 11) (ds := fs) (s1 := lf bd f0 e found a x5 x6 x7 x8 (.own ins) (.dat (nt g)) (.own fs) (.dat (nt k)) (.dat (.tuple b.ds)) β) rfl ?_ rfl (by rw [sizeLine_eq]; omega)
      have ht : mIs (mBin cNe (mVar 13) (mTup [])) (lf bd f0 e found a x5 x6 x7 x8 (.own ins) (.dat (nt g)) (.own fs) (.dat (nt k)) (.dat (.tuple b.ds)) β) = some (lf bd f0 e found a x5 x6 x7 x8 (.own ins) (.dat (nt g)) (.own fs) (.dat (nt k)) (.dat (.tuple b.ds)) β, .ok (!b.isNil)) :=
        isD (binD (d1 := .tuple b.ds) (d2 := .tuple []) rfl rfl (ne_nil ob (by omega)))
      rw [if_ok ht]
      cases b.isNil <;> rfl
    have s2 : mSet 9 (mBin dAdd (mVar 9) (mCall Fa [(mVar 13), (mVar 10), (mVar 12)])) (lf bd f0 e found a x5 x6 x7 x8 (.own ins) (.dat (nt g)) (.own (fs ++ [nt (if b.isNil then k else g)])) (.dat (nt k)) (.dat (.tuple b.ds)) β) =
        some (lf bd f0 e found a x5 x6 x7 x8 (.own (ins ++ (b.laid g k).map En.tup)) (.dat (nt g)) (.own (fs ++ [nt (if b.isNil then k else g)])) (.dat (nt k)) (.dat (.tuple b.ds)) β, .ok .nx) := by
      refine setF_ok (i := 9) (s' := lf bd f0 e found a x5 x6 x7 x8 (.own ins) (.dat (nt g)) (.own (fs ++ [nt (if b.isNil then k else g)])) (.dat (nt k)) (.dat (.tuple b.ds)) β) ?_
      refine bin_ok (r1 := .slot 9) (r2 := .fresh ((b.laid g k).map En.tup)) (s1 := lf bd f0 e found a x5 x6 x7 x8 (.own ins) (.dat (nt g)) (.own (fs ++ [nt (if b.isNil then k else g)])) (.dat (nt k)) (.dat (.tuple b.ds)) β) (d1 := .list ins) (d2 := .list ((b.laid g k).map En.tup)) (res := .fresh (ins ++ (b.laid g k).map En.tup)) rfl ?_ rfl rfl ?_
      · exact callF (as := [.dat (.tuple b.ds), .dat (nt g), .dat (nt k)]) rfl (hF g k)
      · show (if _ ≤ sizeLine then some _ else none) = _
        rw [if_pos (by rw [List.length_map, B.laid_len, sizeLine_eq]; omega)]
    have s3 : mSet 10 (mBin dAdd (mVar 10) (mCall F_law_size [(mVar 13)])) (lf bd f0 e found a x5 x6 x7 x8 (.own (ins ++ (b.laid g k).map En.tup)) (.dat (nt g)) (.own (fs ++ [nt (if b.isNil then k else g)])) (.dat (nt k)) (.dat (.tuple b.ds)) β) =
        some (lf bd f0 e found a x5 x6 x7 x8 (.own (ins ++ (b.laid g k).map En.tup)) (.dat (nt (g + b.size))) (.own (fs ++ [nt (if b.isNil then k else g)])) (.dat (nt k)) (.dat (.tuple b.ds)) β, .ok .nx) := by
      have e : (nt (g + b.size) : D) = .int ((g : Int) + (b.size : Int)) := by unfold nt; rw [Int.natCast_add]
      rw [e]
      exact set_ok (s' := lf bd f0 _ found a x5 x6 x7 x8 (.own (ins ++ (b.laid g k).map En.tup)) (.dat (nt g)) (.own (fs ++ [nt (if b.isNil then k else g)])) (.dat (nt k)) (.dat (.tuple b.ds)) β) (binD (d1 := nt g) (d2 := nt b.size) rfl (callD (as := [.dat (.tuple b.ds)]) rfl (law_size_ok β ob hn sb)) rfl)
    rw [List.map_cons, loopF]
    refine (bind_ok s0).trans ((bind_ok (a := .nx) (s' := lf bd f0 e found a x5 x6 x7 x8 (.own (ins ++ (b.laid g k).map En.tup)) (.dat (nt (g + b.size))) (.own (fs ++ [nt (if b.isNil then k else g)])) (.dat (nt k)) (.dat (.tuple b.ds)) β) ?_).trans ?_)
    · unfold m_lin
      rw [then_ok s1, then_ok s2]
      exact s3
    · refine ih.trans ?_
      rw [insOf, fsOf, List.map_append, List.append_assoc]
      simp
end Pu
/-! S9 (k03): the law's laying out, whole. -/
namespace Pu
open PySem PySem.Spec PyProof.Rows L2
theorem nt_succ (a : Nat) : (nt (a + 1) : D) = .int ((a : Int) + 1) := by unfold nt; rw [Int.natCast_add]; rfl
theorem nt_add (a b : Nat) : (nt (a + b) : D) = .int ((a : Int) + (b : Int)) := by unfold nt; rw [Int.natCast_add]
theorem szs_int (bs : List B) : (bs.map fun b => (b.size : Int)).sum = (szsOf bs : Int) := by
  unfold szsOf
  induction bs with
  | nil => rfl
  | cons b bs ih => rw [List.map_cons, List.map_cons, List.sum_cons, List.sum_cons, ih, Int.natCast_add]
abbrev LpT (d : D) (lp : Bool) : Prop := ∀ s : S, mVar 6 s = some (s, .ok (.dat d)) → mIs (mBin cIn (mBin dIx (mVar 6) (mC (.int 0))) (mTup [(mC (.str "while")), (mC (.str "loop"))])) s = some (s, .ok lp)
theorem lp_of {w : Str} {r : List D} {lp : Bool} (h : cIn (.str w) (.tuple [.str "while", .str "loop"]) = some (.dat (.bool lp))) (h2 : dIx (.tuple (.str w :: r)) (.int 0) = some (.dat (.str w))) : LpT (.tuple (.str w :: r)) lp := fun s hs =>
  isD (binD (d1 := .str w) (d2 := .tuple [.str "while", .str "loop"]) (binD (d1 := .tuple (.str w :: r)) (d2 := .int 0) hs rfl h2) rfl h)
theorem ix0 (w : Str) (r : List D) : dIx (.tuple (.str w :: r)) (.int 0) = some (.dat (.str w)) := by
  show (ixD (.str w :: r) 0).map Rs.dat = _
  unfold ixD
  rw [ixN_in (by omega) (by rw [List.length_cons]; omega)]
  rfl
theorem lp_leaf {w : Str} {as : List D} (h : Lf w as) : LpT (.tuple (.str w :: as)) false := by
  refine lp_of ?_ (ix0 _ _)
  cases h <;> kernel_rfl
theorem lp_one {w : Str} {as : List D} (h : On w as) (b : D) : LpT (.tuple (.str w :: (as ++ [b]))) true := by
  refine lp_of ?_ (ix0 _ _)
  cases h <;> kernel_rfl
theorem lp_two {w : Str} {as : List D} (h : Tw w as) (b c : D) : LpT (.tuple (.str w :: (as ++ [b, c]))) false := by
  refine lp_of ?_ (ix0 _ _)
  cases h <;> kernel_rfl
theorem ld_step {Fa : Fn} {n : Nat} (hn : n ≤ 4) (bds : List D) (f0 e : Nat) (found : List D) (a i : Nat) (d : D) (bs : List B) (lp : Bool) (x7 x8 x9 x10 x11 x12 x13 : Sl) (β : Bag)
    (hb : F_law_bodies β [.dat d] = some (β, .ok (.dat (.tuple (bs.map fun b => .tuple b.ds))))) (hl : LpT d lp) (ho : LdA Fa β n bs) (h2 : bs.length ≤ 2) (hx : isFr x13) (hf : found.length + szsOf bs ≤ 900) (later : Nat) (hlat : (if i + 1 < bds.length then a + 1 + szsOf bs else e) = later) :
    ∃ y7 y9 y10 y11 y12 y13, isFr y13 ∧ m_ld Fa (lf (.tuple bds) f0 e found a (.dat (nt i)) (.dat d) x7 x8 x9 x10 x11 x12 x13 β) =
      some (lf (.tuple bds) f0 e (found ++ [En.tup ⟨d, a, fsOf bs (a + 1) (if lp then a else later), later⟩] ++ (insOf bs (a + 1) (if lp then a else later)).map En.tup) (a + 1 + szsOf bs) (.dat (nt i)) (.dat d) y7 (.dat (nt later)) y9 y10 y11 y12 y13 β, .ok .nx) := by
  have hsz := szs_int bs
  have s1 : mSet 7 (mBin dAdd (mBin dAdd (mVar 4) (mC (.int 1))) (mUn dSum (mComp [13] (mSeq (mCall F_law_bodies [(mVar 6)])) (.nm 13) mYes (mCall F_law_size [(mVar 13)])))) (lf (.tuple bds) f0 e found a (.dat (nt i)) (.dat d) x7 x8 x9 x10 x11 x12 x13 β) =
      some (lf (.tuple bds) f0 e found a (.dat (nt i)) (.dat d) (.dat (nt (a + 1 + szsOf bs))) x8 x9 x10 x11 x12 x13 β, .ok .nx) := by
    have es := sum_ok bs (fun b => .tuple b.ds) (fun b => (b.size : Int)) (vs := [13]) (mi := mSeq (mCall F_law_bodies [(mVar 6)])) (t := .nm 13) (me := mCall F_law_size [(mVar 13)]) (s := lf (.tuple bds) f0 e found a (.dat (nt i)) (.dat d) x7 x8 x9 x10 x11 x12 x13 β) (s1 := lf (.tuple bds) f0 e found a (.dat (nt i)) (.dat d) x7 x8 x9 x10 x11 x12 x13 β)
      ((bind_ok (callD (as := [.dat d]) rfl hb)).trans rfl) (by rcases hx with rfl | ⟨q, rfl⟩ <;> rfl)
      (fun b hb => ⟨lf (.tuple bds) f0 e found a (.dat (nt i)) (.dat d) x7 x8 x9 x10 x11 x12 (.dat (.tuple b.ds)) β, lf (.tuple bds) f0 e found a (.dat (nt i)) (.dat d) x7 x8 x9 x10 x11 x12 (.dat (.tuple b.ds)) β, rfl, callD (as := [.dat (.tuple b.ds)]) rfl (law_size_ok β (ho b hb).1.1 hn (ho b hb).1.2), rfl⟩) (by rw [sizeLine_eq]; omega) (by rcases hx with rfl | ⟨q, rfl⟩ <;> rfl)
    rw [hsz] at es
    rw [nt_add (a + 1) (szsOf bs)]
    refine set_ok (binD (d1 := .int ((a : Int) + 1)) (d2 := .int (szsOf bs : Int)) (s1 := lf (.tuple bds) f0 e found a (.dat (nt i)) (.dat d) x7 x8 x9 x10 x11 x12 x13 β) rfl es ?_)
    rw [Int.natCast_add]
    rfl
  have s2 : mSet 8 (mIf (mIs (mBin cLt (mBin dAdd (mVar 5) (mC (.int 1))) (mUn dLenD (mVar 0)))) (mVar 7) (mVar 2)) (lf (.tuple bds) f0 e found a (.dat (nt i)) (.dat d) (.dat (nt (a + 1 + szsOf bs))) x8 x9 x10 x11 x12 x13 β) =
      some (lf (.tuple bds) f0 e found a (.dat (nt i)) (.dat d) (.dat (nt (a + 1 + szsOf bs))) (.dat (nt later)) x9 x10 x11 x12 x13 β, .ok .nx) := by
    have ht : mIs (mBin cLt (mBin dAdd (mVar 5) (mC (.int 1))) (mUn dLenD (mVar 0))) (lf (.tuple bds) f0 e found a (.dat (nt i)) (.dat d) (.dat (nt (a + 1 + szsOf bs))) x8 x9 x10 x11 x12 x13 β) =
        some (lf (.tuple bds) f0 e found a (.dat (nt i)) (.dat d) (.dat (nt (a + 1 + szsOf bs))) x8 x9 x10 x11 x12 x13 β, .ok (decide ((i : Int) + 1 < (bds.length : Int)))) := isD rfl
    refine set_ok (s' := lf (.tuple bds) f0 e found a (.dat (nt i)) (.dat d) (.dat (nt (a + 1 + szsOf bs))) x8 x9 x10 x11 x12 x13 β) ((if_ok ht).trans ?_)
    by_cases q : i + 1 < bds.length
    · rw [if_pos q] at hlat
      rw [decide_eq_true (by omega), ← hlat]
      rfl
    · rw [if_neg q] at hlat
      rw [decide_eq_false (by omega), ← hlat]
      rfl
  have s3 : mParL 9 10 11 [(mLst []), (mBin dAdd (mVar 4) (mC (.int 1))), (mLst [])] (lf (.tuple bds) f0 e found a (.dat (nt i)) (.dat d) (.dat (nt (a + 1 + szsOf bs))) (.dat (nt later)) x9 x10 x11 x12 x13 β) =
      some (lf (.tuple bds) f0 e found a (.dat (nt i)) (.dat d) (.dat (nt (a + 1 + szsOf bs))) (.dat (nt later)) (.own []) (.dat (nt (a + 1))) (.own []) x12 x13 β, .ok .nx) := by
    rw [nt_succ]
    rfl
  have s4 : mSet 12 (mIf (mIs (mBin cIn (mBin dIx (mVar 6) (mC (.int 0))) (mTup [(mC (.str "while")), (mC (.str "loop"))]))) (mVar 4) (mVar 8)) (lf (.tuple bds) f0 e found a (.dat (nt i)) (.dat d) (.dat (nt (a + 1 + szsOf bs))) (.dat (nt later)) (.own []) (.dat (nt (a + 1))) (.own []) x12 x13 β) =
      some (lf (.tuple bds) f0 e found a (.dat (nt i)) (.dat d) (.dat (nt (a + 1 + szsOf bs))) (.dat (nt later)) (.own []) (.dat (nt (a + 1))) (.own []) (.dat (nt (if lp then a else later))) x13 β, .ok .nx) := by
    refine set_ok (s' := lf (.tuple bds) f0 e found a (.dat (nt i)) (.dat d) (.dat (nt (a + 1 + szsOf bs))) (.dat (nt later)) (.own []) (.dat (nt (a + 1))) (.own []) x12 x13 β) ((if_ok (hl _ rfl)).trans ?_)
    cases lp <;> rfl
  obtain ⟨g', y13, hy, s5⟩ := lin_loop hn (.tuple bds) f0 e found a (.dat (nt i)) (.dat d) (.dat (nt (a + 1 + szsOf bs))) (.dat (nt later)) (if lp then a else later) β bs [] (a + 1) [] x13 ho hx (by rw [List.length_nil]; omega) (by rw [List.length_nil]; omega)
  rw [List.nil_append, List.nil_append] at s5
  refine ⟨.dat (nt (a + 1 + szsOf bs)), .own ((insOf bs (a + 1) (if lp then a else later)).map En.tup), .dat (nt g'), .dat (.list (ntl (fsOf bs (a + 1) (if lp then a else later)))), .dat (nt (if lp then a else later)), y13, hy, ?_⟩
  unfold m_ld
  rw [then_ok s1, then_ok s2, then_ok s3, then_ok s4]
  refine (then_ok ((bind_ok (show mSeq (mCall F_law_bodies [(mVar 6)]) _ = some (_, .ok (bs.map fun b => .tuple b.ds)) from (bind_ok (callD (as := [.dat d]) rfl hb)).trans rfl)).trans s5)).trans ?_
  refine (then_ok (s' := lf (.tuple bds) f0 e (found ++ [En.tup ⟨d, a, fsOf bs (a + 1) (if lp then a else later), later⟩] ++ (insOf bs (a + 1) (if lp then a else later)).map En.tup) a (.dat (nt i)) (.dat d) (.dat (nt (a + 1 + szsOf bs))) (.dat (nt later)) (.own ((insOf bs (a + 1) (if lp then a else later)).map En.tup)) (.dat (nt g')) (.dat (.list (ntl (fsOf bs (a + 1) (if lp then a else later))))) (.dat (nt (if lp then a else later))) y13 β) ?_).trans rfl
  refine setF_ok (i := 3) (s' := lf (.tuple bds) f0 e found a (.dat (nt i)) (.dat d) (.dat (nt (a + 1 + szsOf bs))) (.dat (nt later)) (.own ((insOf bs (a + 1) (if lp then a else later)).map En.tup)) (.dat (nt g')) (.dat (.list (ntl (fsOf bs (a + 1) (if lp then a else later))))) (.dat (nt (if lp then a else later))) y13 β) ?_
  refine bin_ok (r1 := .fresh (found ++ [En.tup ⟨d, a, fsOf bs (a + 1) (if lp then a else later), later⟩])) (r2 := .slot 9) (s1 := lf (.tuple bds) f0 e found a (.dat (nt i)) (.dat d) (.dat (nt (a + 1 + szsOf bs))) (.dat (nt later)) (.own ((insOf bs (a + 1) (if lp then a else later)).map En.tup)) (.dat (nt g')) (.dat (.list (ntl (fsOf bs (a + 1) (if lp then a else later))))) (.dat (nt (if lp then a else later))) y13 β)
    (d1 := .list (found ++ [En.tup ⟨d, a, fsOf bs (a + 1) (if lp then a else later), later⟩])) (d2 := .list ((insOf bs (a + 1) (if lp then a else later)).map En.tup)) (res := .fresh (found ++ [En.tup ⟨d, a, fsOf bs (a + 1) (if lp then a else later), later⟩] ++ (insOf bs (a + 1) (if lp then a else later)).map En.tup)) ?_ rfl rfl rfl ?_
  · refine bin_ok (r1 := .slot 3) (r2 := .fresh [En.tup ⟨d, a, fsOf bs (a + 1) (if lp then a else later), later⟩]) (s1 := lf (.tuple bds) f0 e found a (.dat (nt i)) (.dat d) (.dat (nt (a + 1 + szsOf bs))) (.dat (nt later)) (.own ((insOf bs (a + 1) (if lp then a else later)).map En.tup)) (.dat (nt g')) (.own (ntl (fsOf bs (a + 1) (if lp then a else later)))) (.dat (nt (if lp then a else later))) y13 β)
      (d1 := .list found) (d2 := .list [En.tup ⟨d, a, fsOf bs (a + 1) (if lp then a else later), later⟩]) (res := .fresh (found ++ [En.tup ⟨d, a, fsOf bs (a + 1) (if lp then a else later), later⟩])) rfl rfl rfl rfl ?_
    show (if _ ≤ sizeLine then some _ else none) = _
    rw [if_pos (by rw [sizeLine_eq]; simp; omega)]
  · show (if _ ≤ sizeLine then some _ else none) = _
    rw [if_pos (by rw [List.length_append, List.length_map, insOf_len, sizeLine_eq]; simp; omega)]
theorem numD_cons (i : Nat) (d : D) (ds : List D) : numD i (d :: ds) = .tuple [nt i, d] :: numD (i + 1) ds := by rw [numD]
theorem if_lt {b : B} {i L : Nat} {x y : Nat} (h : i + 1 + b.len = L) : (if i + 1 < L then x else y) = if b.isNil then y else x := by
  cases b with
  | nil => rw [B.len] at h; rw [if_neg (by omega)]; rfl
  | leaf w as r => rw [B.len] at h; rw [if_pos (by omega)]; rfl
  | one w as c r => rw [B.len] at h; rw [if_pos (by omega)]; rfl
  | two w as c c' r => rw [B.len] at h; rw [if_pos (by omega)]; rfl
theorem put56 (bd : D) (f0 e : Nat) (found : List D) (a i : Nat) (d : D) (x5 x6 x7 x8 x9 x10 x11 x12 x13 : Sl) (β : Bag) : Tg.put (.tup [(.nm 5), (.nm 6)]) (.tuple [nt i, d]) (lf bd f0 e found a x5 x6 x7 x8 x9 x10 x11 x12 x13 β) = some (lf bd f0 e found a (.dat (nt i)) (.dat d) x7 x8 x9 x10 x11 x12 x13 β, .ok ()) := rfl
theorem ld_loop {Fa : Fn} (bds : List D) (f0 e : Nat) (β : Bag) : ∀ (b : B) (n : Nat), Ok b n → n ≤ 4 → b.size ≤ 400 → (∀ m, n = m + 1 → LdF Fa m) → ∀ (i : Nat) (found : List D) (a : Nat) (x5 x6 x7 x8 x9 x10 x11 x12 x13 : Sl), i + b.len = bds.length → isFr x13 → found.length + b.size ≤ 800 →
    ∃ y5 y6 y7 y8 y9 y10 y11 y12 y13, loopF (Tg.put (.tup [(.nm 5), (.nm 6)])) (m_ld Fa) (numD i b.ds) (lf (.tuple bds) f0 e found a x5 x6 x7 x8 x9 x10 x11 x12 x13 β) = some (lf (.tuple bds) f0 e (found ++ (b.laid a e).map En.tup) (a + b.size) y5 y6 y7 y8 y9 y10 y11 y12 y13 β, .ok .nx)
  | .nil, n, h, hn, hs, hF, i, found, a, x5, x6, x7, x8, x9, x10, x11, x12, x13, hL, hx, hf => ⟨x5, x6, x7, x8, x9, x10, x11, x12, x13, by rw [B.laid, B.ds, B.size, numD]; simp only [List.map_nil, List.append_nil, Nat.add_zero]; rfl⟩
  | .leaf w as r, n, h, hn, hs, hF, i, found, a, x5, x6, x7, x8, x9, x10, x11, x12, x13, hL, hx, hf => by
    rw [B.size] at hs hf
    rw [B.len] at hL
    have st := fun x7 x8 x9 x10 x11 x12 x13 hx => ld_step (Fa := Fa) (n := 0) (bs := []) (lp := false) (by omega) bds f0 e found a i (.tuple (.str w :: as)) x7 x8 x9 x10 x11 x12 x13 β (lb_leaf β h.1) (lp_leaf h.1) (fun b hb => nomatch hb) (by simp) hx (by unfold szsOf; simp; omega) (if r.isNil then e else a + 1) (by rw [if_lt (b := r) (by omega)]; rfl)
    obtain ⟨y7, y9, y10, y11, y12, y13, hy, st⟩ := st x7 x8 x9 x10 x11 x12 x13 hx
    obtain ⟨z5, z6, z7, z8, z9, z10, z11, z12, z13, ih⟩ := ld_loop bds f0 e β r n h.2.2 hn (by omega) hF (i + 1) (found ++ [En.tup ⟨.tuple (.str w :: as), a, [], if r.isNil then e else a + 1⟩]) (a + 1) (.dat (nt i)) (.dat (.tuple (.str w :: as))) y7 (.dat (nt (if r.isNil then e else a + 1))) y9 y10 y11 y12 y13 (by omega) hy (by rw [List.length_append]; simp; omega)
    refine ⟨z5, z6, z7, z8, z9, z10, z11, z12, z13, ?_⟩
    rw [B.ds, numD_cons, loopF, B.laid, B.size]
    refine (bind_ok (put56 ..)).trans ((bind_ok (a := .nx) (s' := lf (.tuple bds) f0 e (found ++ [En.tup ⟨.tuple (.str w :: as), a, [], if r.isNil then e else a + 1⟩]) (a + 1) (.dat (nt i)) (.dat (.tuple (.str w :: as))) y7 (.dat (nt (if r.isNil then e else a + 1))) y9 y10 y11 y12 y13 β) ?_).trans ?_)
    · refine st.trans ?_
      simp [fsOf, insOf, szsOf]
    · refine ih.trans ?_
      rw [show a + (1 + r.size) = a + 1 + r.size by omega]
      simp
  | .one w as b r, n, h, hn, hs, hF, i, found, a, x5, x6, x7, x8, x9, x10, x11, x12, x13, hL, hx, hf => by
    rw [B.size] at hs hf
    rw [B.len] at hL
    obtain ⟨h0, h1, h2, ⟨m, rfl, h3⟩, h4⟩ := h
    obtain ⟨y7, y9, y10, y11, y12, y13, hy, st⟩ := ld_step (Fa := Fa) (n := m) (bs := [b]) (lp := true) (by omega) bds f0 e found a i (.tuple (.str w :: (as ++ [.tuple b.ds]))) x7 x8 x9 x10 x11 x12 x13 β (lb_one β h0 _) (lp_one h0 _) (fun c hc => by rw [List.mem_singleton.mp hc]; exact ⟨⟨h3, by omega⟩, fun g k => hF m rfl β b g k h3 (by omega)⟩) (by simp) hx (by unfold szsOf; simp; omega) (if r.isNil then e else a + 1 + b.size) (by rw [if_lt (b := r) (by omega)]; simp [szsOf])
    obtain ⟨z5, z6, z7, z8, z9, z10, z11, z12, z13, ih⟩ := ld_loop bds f0 e β r (m + 1) h4 hn (by omega) hF (i + 1) (found ++ [En.tup ⟨.tuple (.str w :: (as ++ [.tuple b.ds])), a, fsOf [b] (a + 1) a, if r.isNil then e else a + 1 + b.size⟩] ++ (b.laid (a + 1) a).map En.tup) (a + 1 + b.size) (.dat (nt i)) (.dat (.tuple (.str w :: (as ++ [.tuple b.ds])))) y7 (.dat (nt (if r.isNil then e else a + 1 + b.size))) y9 y10 y11 y12 y13 (by omega) hy (by rw [List.length_append, List.length_append, List.length_map, B.laid_len]; simp; omega)
    refine ⟨z5, z6, z7, z8, z9, z10, z11, z12, z13, ?_⟩
    rw [B.ds, numD_cons, loopF, B.laid, B.size]
    refine (bind_ok (put56 ..)).trans ((bind_ok (a := .nx) (s' := lf (.tuple bds) f0 e (found ++ [En.tup ⟨.tuple (.str w :: (as ++ [.tuple b.ds])), a, fsOf [b] (a + 1) a, if r.isNil then e else a + 1 + b.size⟩] ++ (b.laid (a + 1) a).map En.tup) (a + 1 + b.size) (.dat (nt i)) (.dat (.tuple (.str w :: (as ++ [.tuple b.ds])))) y7 (.dat (nt (if r.isNil then e else a + 1 + b.size))) y9 y10 y11 y12 y13 β) ?_).trans ?_)
    · refine st.trans ?_
      simp [insOf, szsOf]
    · refine ih.trans ?_
      rw [show a + (1 + b.size + r.size) = a + 1 + b.size + r.size by omega]
      simp
  | .two w as b c r, n, h, hn, hs, hF, i, found, a, x5, x6, x7, x8, x9, x10, x11, x12, x13, hL, hx, hf => by
    rw [B.size] at hs hf
    rw [B.len] at hL
    obtain ⟨h0, h1, h2, h2', ⟨m, rfl, h3, h3'⟩, h4⟩ := h
    obtain ⟨y7, y9, y10, y11, y12, y13, hy, st⟩ := ld_step (Fa := Fa) (n := m) (bs := [b, c]) (lp := false) (by omega) bds f0 e found a i (.tuple (.str w :: (as ++ [.tuple b.ds, .tuple c.ds]))) x7 x8 x9 x10 x11 x12 x13 β (lb_two β h0 _ _) (lp_two h0 _ _) (fun q hc => by
      simp only [List.mem_cons, List.not_mem_nil, or_false] at hc
      rcases hc with rfl | rfl
      · exact ⟨⟨h3, by omega⟩, fun g k => hF m rfl β _ g k h3 (by omega)⟩
      · exact ⟨⟨h3', by omega⟩, fun g k => hF m rfl β _ g k h3' (by omega)⟩) (by simp) hx (by unfold szsOf; simp; omega) (if r.isNil then e else a + 1 + (b.size + c.size)) (by rw [if_lt (b := r) (by omega)]; simp [szsOf])
    generalize hz : (if r.isNil then e else a + 1 + (b.size + c.size)) = lt at st
    obtain ⟨z5, z6, z7, z8, z9, z10, z11, z12, z13, ih⟩ := ld_loop bds f0 e β r (m + 1) h4 hn (by omega) hF (i + 1) (found ++ [En.tup ⟨.tuple (.str w :: (as ++ [.tuple b.ds, .tuple c.ds])), a, fsOf [b, c] (a + 1) lt, lt⟩] ++ (b.laid (a + 1) lt ++ c.laid (a + 1 + b.size) lt).map En.tup) (a + 1 + (b.size + c.size)) (.dat (nt i)) (.dat (.tuple (.str w :: (as ++ [.tuple b.ds, .tuple c.ds])))) y7 (.dat (nt lt)) y9 y10 y11 y12 y13 (by omega) hy (by rw [List.length_append, List.length_append, List.length_map, List.length_append, B.laid_len, B.laid_len]; simp; omega)
    refine ⟨z5, z6, z7, z8, z9, z10, z11, z12, z13, ?_⟩
    rw [B.ds, numD_cons, loopF, B.laid, B.size, hz]
    refine (bind_ok (put56 ..)).trans ((bind_ok (a := .nx) (s' := lf (.tuple bds) f0 e (found ++ [En.tup ⟨.tuple (.str w :: (as ++ [.tuple b.ds, .tuple c.ds])), a, fsOf [b, c] (a + 1) lt, lt⟩] ++ (b.laid (a + 1) lt ++ c.laid (a + 1 + b.size) lt).map En.tup) (a + 1 + (b.size + c.size)) (.dat (nt i)) (.dat (.tuple (.str w :: (as ++ [.tuple b.ds, .tuple c.ds])))) y7 (.dat (nt lt)) y9 y10 y11 y12 y13 β) ?_).trans ?_)
    · refine st.trans ?_
      simp [insOf, szsOf]
    · refine ih.trans ?_
      rw [show a + (1 + b.size + c.size + r.size) = a + 1 + (b.size + c.size) + r.size by omega]
      simp
theorem ldF_ok : ∀ n : Nat, n ≤ 4 → ∀ k : Nat, n < k → LdF (FF_law_laid k) n
  | n, hn, 0, h => by omega
  | n, hn, k + 1, h => fun β b f e hb hs => by
    obtain ⟨y5, y6, y7, y8, y9, y10, y11, y12, y13, e2⟩ := ld_loop (Fa := FF_law_laid k) b.ds f e β b n hb hn hs (fun m hm => by subst hm; exact ldF_ok m (by omega) k (by omega)) 0 [] f .no .no .no .no .no .no .no .no .no (by rw [B.ds_len]; omega) (.inl rfl) (by simp; omega)
    rw [List.nil_append] at e2
    refine fnF_at (s := lf (.tuple b.ds) f e ((b.laid f e).map En.tup) (f + b.size) y5 y6 y7 y8 y9 y10 y11 y12 y13 β) (r := .slot 3) ⟨[.dat (.tuple b.ds), .dat (nt f), .dat (nt e), .no, .no, .no, .no, .no, .no, .no, .no, .no, .no, .no], β⟩ rfl ?_ rfl
    refine (then_ok (show mPar 3 4 (mLst []) (mVar 1) _ = some (lf (.tuple b.ds) f e [] f .no .no .no .no .no .no .no .no .no β, .ok .nx) from rfl)).trans ?_
    refine (then_ok ((bind_ok (show mNum (mVar 0) _ = some (_, .ok (numD 0 b.ds)) from rfl)).trans e2)).trans rfl
theorem law_laid_ok (β : Bag) {b : B} {n : Nat} (h : Ok b n) (hn : n ≤ 4) (hs : b.size ≤ 400) (f e : Nat) : F_law_laid β [.dat (.tuple b.ds), .dat (.int (f : Int)), .dat (.int (e : Int))] = some (β, .ok (.fresh ((b.laid f e).map En.tup))) := ldF_ok n hn 5 (by omega) β b f e h hs
end Pu
/-! S10 (k03): dicts by whole numbers; the law's places. -/
namespace Pu
open PySem PySem.Spec PyProof.Rows L2
theorem look_cons (a b : D) (r : List (D × D)) (kk : Key) : lookD ((a, b) :: r) kk = if keyD a = some kk then some b else lookD r kk := by
  unfold lookD
  rw [List.find?_cons]
  by_cases q : keyD a = some kk
  · rw [decide_eq_true q, if_pos q]; rfl
  · rw [decide_eq_false q, if_neg q]
theorem look_map (d : D) (k : D) (k0 kk : Key) (h : keyD k = some k0) : ∀ kvs : List (D × D), lookD (kvs.map fun kv => if keyD kv.1 = keyD k then (kv.1, d) else kv) kk = if k0 = kk then (lookD kvs kk).map (fun _ => d) else lookD kvs kk
  | [] => by
    by_cases q : k0 = kk
    · rw [if_pos q]; rfl
    · rw [if_neg q]; rfl
  | (a, b) :: r => by
    have ih := look_map d k k0 kk h r
    rw [List.map_cons, look_cons]
    by_cases e : keyD a = keyD k
    · rw [if_pos e, look_cons]
      by_cases q : k0 = kk
      · rw [if_pos q] at ih ⊢
        rw [if_pos (by show keyD a = some kk; rw [e, h, q]), if_pos (by rw [e, h, q])]
        rfl
      · rw [if_neg q] at ih ⊢
        have z : keyD a ≠ some kk := by rw [e, h]; intro w; exact q (Option.some.inj w)
        rw [if_neg z, if_neg z, ih]
    · rw [if_neg e, look_cons, ih]
      by_cases q : k0 = kk
      · have z : keyD a ≠ some kk := by rw [← q, ← h]; exact e
        rw [if_pos q, if_pos q, if_neg z, if_neg z]
      · rw [if_neg q, if_neg q]
theorem look_any {k : D} {k0 : Key} (h : keyD k = some k0) : ∀ kvs : List (D × D), (kvs.any fun kv => decide (keyD kv.1 = keyD k)) = (lookD kvs k0).isSome
  | [] => rfl
  | (a, b) :: r => by
    rw [List.any_cons, look_any h r, look_cons]
    by_cases e : keyD a = some k0
    · rw [if_pos e, decide_eq_true (by rw [h]; exact e)]; rfl
    · rw [if_neg e, decide_eq_false (by rw [h]; exact e), Bool.false_or]
theorem look_app (kk : Key) (k d : D) (k0 : Key) (h : keyD k = some k0) : ∀ kvs : List (D × D), lookD (kvs ++ [(k, d)]) kk = if (lookD kvs kk).isSome then lookD kvs kk else if k0 = kk then some d else none
  | [] => by
    rw [List.nil_append, look_cons]
    have e0 : lookD [] kk = none := rfl
    rw [e0]
    by_cases q : k0 = kk
    · rw [if_pos (by rw [h, q]), if_neg (by simp), if_pos q]
    · rw [if_neg (by rw [h]; intro w; exact q (Option.some.inj w)), if_neg (by simp), if_neg q]
  | (a, b) :: r => by
    rw [List.cons_append, look_cons, look_cons, look_app kk k d k0 h r]
    by_cases e : keyD a = some kk
    · rw [if_pos e, if_pos e]; rfl
    · rw [if_neg e, if_neg e]
theorem look_put {k : D} {k0 : Key} (h : keyD k = some k0) (kvs : List (D × D)) (d : D) (kk : Key) : lookD (putD kvs k d) kk = if k0 = kk then some d else lookD kvs kk := by
  unfold putD
  rw [look_any h]
  cases e : (lookD kvs k0).isSome with
  | true =>
    rw [if_pos rfl, look_map d k k0 kk h]
    by_cases q : k0 = kk
    · rw [if_pos q, if_pos q]
      rw [q] at e
      obtain ⟨x, hx⟩ := Option.isSome_iff_exists.mp e
      rw [hx]; rfl
    · rw [if_neg q, if_neg q]
  | false =>
    rw [if_neg (by simp), look_app kk k d k0 h]
    by_cases q : k0 = kk
    · rw [if_pos q, if_pos q, if_neg (by rw [← q, e]; simp)]
    · rw [if_neg q, if_neg q]
      cases e2 : lookD kvs kk <;> simp
theorem put_len {k d : D} {kvs : List (D × D)} : (putD kvs k d).length ≤ kvs.length + 1 := by
  unfold putD
  split
  · rw [List.length_map]; omega
  · rw [List.length_append]; exact Nat.le_refl _
/-! ### the law's dict -/
def En.val (e : En) : D := .tuple [e.d, .list (ntl e.fs), nt e.later]
def En.kv (e : En) : D × D := (nt e.at_, e.val)
theorem ats : ∀ (b : B) (f e : Nat), (b.laid f e).map En.at_ = List.range' f b.size
  | .nil, f, e => rfl
  | .leaf w as r, f, e => by
    rw [B.laid, B.size, List.map_cons, ats r, show 1 + r.size = r.size + 1 by omega, List.range'_succ]
  | .one w as b r, f, e => by
    rw [B.laid, B.size, List.map_cons, List.map_append, ats b, ats r, show 1 + b.size + r.size = (b.size + r.size) + 1 by omega, List.range'_succ, ← List.range'_append_1]
  | .two w as b c r, f, e => by
    rw [B.laid, B.size, List.map_cons, List.map_append, List.map_append, ats b, ats c, ats r, show 1 + b.size + c.size + r.size = (b.size + (c.size + r.size)) + 1 by omega, List.range'_succ, ← List.range'_append_1, ← List.range'_append_1, show f + 1 + (b.size + c.size) = f + 1 + b.size + c.size by omega]
theorem merge_look (kk : Key) : ∀ (L : List En) (acc : List (D × D)), (∀ x ∈ L, Sum.inl (x.at_ : Int) ≠ kk) → lookD (mergeD acc (L.map En.kv)) kk = lookD acc kk
  | [], acc, _ => rfl
  | e :: L, acc, h => by
    rw [List.map_cons]
    show lookD (mergeD (putD acc (nt e.at_) e.val) (L.map En.kv)) kk = _
    rw [merge_look kk L _ fun x hx => h x (by simp [hx]), look_put (k0 := .inl (e.at_ : Int)) rfl, if_neg (h e (by simp))]
theorem merge_at : ∀ (L : List En) (acc : List (D × D)), (L.map En.at_).Nodup → ∀ x ∈ L, lookD (mergeD acc (L.map En.kv)) (.inl (x.at_ : Int)) = some x.val
  | [], acc, _, x, hx => nomatch hx
  | e :: L, acc, h, x, hx => by
    (rw [List.map_cons, List.nodup_cons] at h)
    rw [List.map_cons]
    show lookD (mergeD (putD acc (nt e.at_) e.val) (L.map En.kv)) _ = _
    (rcases List.mem_cons.mp hx with rfl | hx)
    · rw [merge_look _ L _ fun y hy z => h.1 (by
        have : y.at_ = x.at_ := by have := Sum.inl.inj z; omega
        rw [← this]
        exact List.mem_map_of_mem hy), look_put (k0 := .inl (x.at_ : Int)) rfl, if_pos rfl]
    · exact merge_at L _ h.2 x hx
def dicOf (L : List En) : D := .dict (mergeD [] (L.map En.kv))
theorem pairs_kv : ∀ L : List En, pairsKD (L.map fun (e : En) => PyData.tuple [nt e.at_, e.val]) = some (L.map En.kv)
  | [] => rfl
  | e :: L => by
    rw [List.map_cons, pairsKD, pairs_kv L]
    rfl
theorem places_ok (β : Bag) (ds : List D) {b : B} {n : Nat} (h : Ok b n) (hn : n ≤ 4) (hs : b.size ≤ 400) (hd : dIx (.tuple ds) (.int 5) = some (.dat (.tuple b.ds))) :
    F_law_places β [.dat (.tuple ds)] = some (β, .ok (.dat (dicOf (b.laid 0 b.size)))) := by
  refine fn_at (s := ⟨[.dat (.tuple ds), .dat (nt b.size), .no, .no, .no, .no], β⟩) ⟨[.dat (.tuple ds), .no, .no, .no, .no, .no], β⟩ rfl ?_
  have hb : ∀ x1 : Sl, mBin dIx (mVar 0) (mC (.int 5)) ⟨[.dat (.tuple ds), x1, .no, .no, .no, .no], β⟩ = some (⟨[.dat (.tuple ds), x1, .no, .no, .no, .no], β⟩, .ok (.dat (.tuple b.ds))) := fun x1 => binD (d1 := .tuple ds) (d2 := .int 5) rfl rfl hd
  refine (then_ok (set_ok (s' := ⟨[.dat (.tuple ds), .no, .no, .no, .no, .no], β⟩) (callD (ρ := [.dat (.tuple ds), .no, .no, .no, .no, .no]) (as := [.dat (.tuple b.ds)]) (args_cons' (hb _) args_nil) (law_size_ok β h hn hs)))).trans (ret_ok ?_)
  have hc := comp_ok (b.laid 0 b.size) En.tup (fun e => .tuple [nt e.at_, e.val]) (vs := [2, 3, 4, 5]) (mi := mSeq (mCall F_law_laid [(mBin dIx (mVar 0) (mC (.int 5))), (mC (.int 0)), (mVar 1)])) (t := .tup [(.nm 2), (.nm 3), (.nm 4), (.nm 5)]) (me := mTup [(mVar 3), (mTup [(mVar 2), (mVar 4), (mVar 5)])])
    (s := ⟨[.dat (.tuple ds), .dat (nt b.size), .no, .no, .no, .no], β⟩) (s1 := ⟨[.dat (.tuple ds), .dat (nt b.size), .no, .no, .no, .no], β⟩)
    ((bind_ok (callF (ρ := [.dat (.tuple ds), .dat (nt b.size), .no, .no, .no, .no]) (as := [.dat (.tuple b.ds), .dat (nt 0), .dat (nt b.size)]) (args_cons' (hb _) (args_cons' rfl (args_cons' rfl args_nil))) (law_laid_ok β h hn hs 0 b.size))).trans rfl) rfl
    (fun e _ => ⟨⟨[.dat (.tuple ds), .dat (nt b.size), .dat e.d, .dat (nt e.at_), .dat (.list (ntl e.fs)), .dat (nt e.later)], β⟩, _, rfl, rfl, rfl⟩) (by rw [B.laid_len, sizeLine_eq]; omega) rfl
  refine un_ok (r := .fresh ((b.laid 0 b.size).map fun (e : En) => PyData.tuple [nt e.at_, e.val])) (d := .list ((b.laid 0 b.size).map fun (e : En) => PyData.tuple [nt e.at_, e.val])) (res := .dat (dicOf (b.laid 0 b.size))) hc rfl ?_
  show (pairsKD _).map _ = _
  rw [pairs_kv]
  rfl
end Pu
/-! S11 (k03): the Layout's inner. -/
namespace Pu
open PySem PySem.Spec PyProof.Rows L2
def fsL (n : Nat) (sts : List D) : List (Str × FV) := [("statements", .dat (.list sts)), ("behind", .ob (n + 1)), ("first", .ob (n + 2))]
def lay (os : List Cell) (sts : List D) (Bk Fk : List (D × D)) : List Cell := os ++ [.ins "Layout" (fsL os.length sts), .dct Bk, .dct Fk]
abbrev lb (β : Bag) (sts : List D) (Bk Fk : List (D × D)) : Bag := { β with os := lay β.os sts Bk Fk }
theorem get0 (os : List Cell) (a : Cell) (r : List Cell) : (os ++ a :: r)[os.length]? = some a := by simp
theorem get1 (os : List Cell) (a b : Cell) (r : List Cell) : (os ++ a :: b :: r)[os.length + 1]? = some b := by simp
theorem get2 (os : List Cell) (a b c : Cell) (r : List Cell) : (os ++ a :: b :: c :: r)[os.length + 2]? = some c := by simp
theorem set0 (os : List Cell) (a x : Cell) (r : List Cell) : (os ++ a :: r).set os.length x = os ++ x :: r := by simp
theorem set1 (os : List Cell) (a b x : Cell) (r : List Cell) : (os ++ a :: b :: r).set (os.length + 1) x = os ++ a :: x :: r := by simp
theorem set2 (os : List Cell) (a b c x : Cell) (r : List Cell) : (os ++ a :: b :: c :: r).set (os.length + 2) x = os ++ a :: b :: x :: r := by simp
theorem fld_ok {C f : Str} {m : M Rv} {s s' : S} {n : Nat} {fs : List (Str × FV)} {x : FV} (h : m s = some (s', .ok (.ob n))) (e : s'.β.os[n]? = some (.ins C fs)) (l : fs.lookup f = some x) : mFld C m f s = some (s', .ok x.rv) := by
  unfold mFld
  refine (bind_ok h).trans ?_
  simp only [e, if_pos, l, Option.map_some]
section
variable {β : Bag} {sts : List D} {Bk Fk : List (D × D)} {ρ : List Sl} {m : M Rv}
theorem fld_b (h : m ⟨ρ, lb β sts Bk Fk⟩ = some (⟨ρ, lb β sts Bk Fk⟩, .ok (.ob β.os.length))) : mFld "Layout" m "behind" ⟨ρ, lb β sts Bk Fk⟩ = some (⟨ρ, lb β sts Bk Fk⟩, .ok (.ob (β.os.length + 1))) := by
  exact fld_ok (x := .ob (β.os.length + 1)) h (show (lay β.os sts Bk Fk)[β.os.length]? = _ from get0 _ _ _) rfl
theorem fld_f (h : m ⟨ρ, lb β sts Bk Fk⟩ = some (⟨ρ, lb β sts Bk Fk⟩, .ok (.ob β.os.length))) : mFld "Layout" m "first" ⟨ρ, lb β sts Bk Fk⟩ = some (⟨ρ, lb β sts Bk Fk⟩, .ok (.ob (β.os.length + 2))) := by
  exact fld_ok (x := .ob (β.os.length + 2)) h (show (lay β.os sts Bk Fk)[β.os.length]? = _ from get0 _ _ _) rfl
theorem fld_s (h : m ⟨ρ, lb β sts Bk Fk⟩ = some (⟨ρ, lb β sts Bk Fk⟩, .ok (.ob β.os.length))) : mFld "Layout" m "statements" ⟨ρ, lb β sts Bk Fk⟩ = some (⟨ρ, lb β sts Bk Fk⟩, .ok (.dat (.list sts))) := by
  exact fld_ok (x := .dat (.list sts)) h (show (lay β.os sts Bk Fk)[β.os.length]? = _ from get0 _ _ _) rfl
theorem peek_b : peek (.ob (β.os.length + 1)) ⟨ρ, lb β sts Bk Fk⟩ = some (⟨ρ, lb β sts Bk Fk⟩, .ok (.dict Bk)) := by
  show (((lay β.os sts Bk Fk)[β.os.length + 1]?).bind cellD).map _ = _
  unfold lay
  rw [get1]
  rfl
theorem peek_f : peek (.ob (β.os.length + 2)) ⟨ρ, lb β sts Bk Fk⟩ = some (⟨ρ, lb β sts Bk Fk⟩, .ok (.dict Fk)) := by
  show (((lay β.os sts Bk Fk)[β.os.length + 2]?).bind cellD).map _ = _
  unfold lay
  rw [get2]
  rfl
/-- self.behind[k], self.first[k] -/
theorem ix_b {mk : M Rv} {k : Nat} {d : D} (h : m ⟨ρ, lb β sts Bk Fk⟩ = some (⟨ρ, lb β sts Bk Fk⟩, .ok (.ob β.os.length))) (hk : mk ⟨ρ, lb β sts Bk Fk⟩ = some (⟨ρ, lb β sts Bk Fk⟩, .ok (.dat (nt k)))) (hl : lookD Bk (.inl (k : Int)) = some d) :
    mBin dIxK (mFld "Layout" m "behind") mk ⟨ρ, lb β sts Bk Fk⟩ = some (⟨ρ, lb β sts Bk Fk⟩, .ok (.dat d)) := by
  refine bin_ok (r1 := .ob (β.os.length + 1)) (r2 := .dat (nt k)) (d1 := .dict Bk) (d2 := nt k) (res := .dat d) (fld_b h) hk peek_b rfl ?_
  show ((keyD (nt k)).bind fun k => (lookD Bk k).map Rs.dat) = _
  show (lookD Bk (.inl (k : Int))).map Rs.dat = _
  rw [hl]; rfl
theorem ix_f {mk : M Rv} {k : Nat} {d : D} (h : m ⟨ρ, lb β sts Bk Fk⟩ = some (⟨ρ, lb β sts Bk Fk⟩, .ok (.ob β.os.length))) (hk : mk ⟨ρ, lb β sts Bk Fk⟩ = some (⟨ρ, lb β sts Bk Fk⟩, .ok (.dat (nt k)))) (hl : lookD Fk (.inl (k : Int)) = some d) :
    mBin dIxK (mFld "Layout" m "first") mk ⟨ρ, lb β sts Bk Fk⟩ = some (⟨ρ, lb β sts Bk Fk⟩, .ok (.dat d)) := by
  refine bin_ok (r1 := .ob (β.os.length + 2)) (r2 := .dat (nt k)) (d1 := .dict Fk) (d2 := nt k) (res := .dat d) (fld_f h) hk peek_f rfl ?_
  show ((keyD (nt k)).bind fun k => (lookD Fk k).map Rs.dat) = _
  show (lookD Fk (.inl (k : Int))).map Rs.dat = _
  rw [hl]; rfl
/-- self.behind[k] = d, self.first[k] = d -/
theorem put_b {mk mv : M Rv} {ρ' : List Sl} {k : Nat} {r : Rv} {d : D} (hv : mv ⟨ρ, lb β sts Bk Fk⟩ = some (⟨ρ, lb β sts Bk Fk⟩, .ok r)) (hr : retain r ⟨ρ, lb β sts Bk Fk⟩ = some (⟨ρ', lb β sts Bk Fk⟩, .ok d))
    (h : m ⟨ρ', lb β sts Bk Fk⟩ = some (⟨ρ', lb β sts Bk Fk⟩, .ok (.ob β.os.length))) (hk : mk ⟨ρ', lb β sts Bk Fk⟩ = some (⟨ρ', lb β sts Bk Fk⟩, .ok (.dat (nt k)))) (hl : Bk.length ≤ 2000) :
    mDPut (mFld "Layout" m "behind") mk mv ⟨ρ, lb β sts Bk Fk⟩ = some (⟨ρ', lb β sts (putD Bk (nt k) d) Fk⟩, .ok .nx) := by
  refine (bind_ok hv).trans ((bind_ok hr).trans ((bind_ok (fld_b h)).trans ((bind_ok hk).trans ?_)))
  have e : (lay β.os sts Bk Fk)[β.os.length + 1]? = some (.dct Bk) := by unfold lay; rw [get1]
  have e2 : (lay β.os sts Bk Fk).set (β.os.length + 1) (.dct (putD Bk (nt k) d)) = lay β.os sts (putD Bk (nt k) d) Fk := by unfold lay; rw [set1]
  simp only [e, keyD]
  rw [if_pos (by rw [sizeLine_eq]; omega)]
  unfold S.putCell
  rw [e2]
theorem put_f {mk mv : M Rv} {ρ' : List Sl} {k : Nat} {r : Rv} {d : D} (hv : mv ⟨ρ, lb β sts Bk Fk⟩ = some (⟨ρ, lb β sts Bk Fk⟩, .ok r)) (hr : retain r ⟨ρ, lb β sts Bk Fk⟩ = some (⟨ρ', lb β sts Bk Fk⟩, .ok d))
    (h : m ⟨ρ', lb β sts Bk Fk⟩ = some (⟨ρ', lb β sts Bk Fk⟩, .ok (.ob β.os.length))) (hk : mk ⟨ρ', lb β sts Bk Fk⟩ = some (⟨ρ', lb β sts Bk Fk⟩, .ok (.dat (nt k)))) (hl : Fk.length ≤ 2000) :
    mDPut (mFld "Layout" m "first") mk mv ⟨ρ, lb β sts Bk Fk⟩ = some (⟨ρ', lb β sts Bk (putD Fk (nt k) d)⟩, .ok .nx) := by
  refine (bind_ok hv).trans ((bind_ok hr).trans ((bind_ok (fld_f h)).trans ((bind_ok hk).trans ?_)))
  have e : (lay β.os sts Bk Fk)[β.os.length + 2]? = some (.dct Fk) := by unfold lay; rw [get2]
  have e2 : (lay β.os sts Bk Fk).set (β.os.length + 2) (.dct (putD Fk (nt k) d)) = lay β.os sts Bk (putD Fk (nt k) d) := by unfold lay; rw [set2]
  simp only [e, keyD]
  rw [if_pos (by rw [sizeLine_eq]; omega)]
  unfold S.putCell
  rw [e2]
end
theorem aug_ok {i : Nat} {m : M Rv} {s : S} {a b : Nat} (h : s.ρ[i]? = some (.dat (nt a))) (hm : m s = some (s, .ok (.dat (nt b)))) : mAug i dAddI m s = some ({ s with ρ := s.ρ.set i (.dat (nt (a + b))) }, .ok .nx) := by
  unfold mAug
  simp only [h]
  refine (bind_ok hm).trans ((bind_ok (show peek (.dat (nt b)) s = some (s, .ok (nt b)) from rfl)).trans ((bind_ok (show M.lift (dAddI (nt a) (nt b)) s = some (s, .ok (.dat (nt (a + b)))) from ?_)).trans rfl))
  rw [nt_add]
  rfl
theorem len_nodes {ρ : List Sl} {β : Bag} {i : Nat} {b : B} {n : Nat} (h : Ok b n) (hs : b.size ≤ 400) (hi : mArgs [mVar i] ⟨ρ, β⟩ = some (⟨ρ, β⟩, .ok [.dat (.tuple b.ds)])) : mUn dLenD (mCall F_nodes_of [mVar i]) ⟨ρ, β⟩ = some (⟨ρ, β⟩, .ok (.dat (nt b.size))) := by
  refine un_ok (r := .fresh (b.nd 1)) (d := .list (b.nd 1)) (res := .dat (nt b.size)) (callF hi (nodes_ok β h hs)) rfl ?_
  show some (Rs.dat (.int ((b.nd 1).length : Int))) = _
  rw [B.nd_len]
abbrev Sub3 := B × Nat × Nat
def tup3 (x : Sub3) : D := .tuple [.tuple x.1.ds, nt x.2.1, nt x.2.2]
def subsOf : List B → Nat → Nat → List Sub3
  | [], _, _ => []
  | b :: bs, f, k => (b, f, k) :: subsOf bs (f + b.size) k
def m_iin : M Fl := (mThen (mExpr (mAppend 4 (mTup [(mVar 7), (mVar 5), (mVar 3)]))) (mThen (mExpr (mAppend 6 (mIf (mIs (mBin cNe (mVar 7) (mTup []))) (mVar 5) (mVar 3)))) (mAug 5 dAddI (mUn dLenD (mCall F_nodes_of [(mVar 7)])))))
abbrev li (n : Nat) (d : D) (f k : Nat) (found : List D) (a : Nat) (fs : List D) (x7 : Sl) : List Sl := [.ob n, .dat d, .dat (nt f), .dat (nt k), .own found, .dat (nt a), .own fs, x7]
theorem iin_loop (n : Nat) (d : D) (f k : Nat) (β : Bag) {q : Nat} (hq : q ≤ 4) : ∀ (bs : List B) (found : List D) (a : Nat) (fs : List D) (x7 : Sl), (∀ b ∈ bs, Ok b q ∧ b.size ≤ 400) → found.length + bs.length ≤ 1000 → fs.length + bs.length ≤ 1000 →
    ∃ (a' : Nat) (y7 : Sl), loopF (Tg.put (.nm 7)) m_iin (bs.map fun b => .tuple b.ds) ⟨li n d f k found a fs x7, β⟩ = some (⟨li n d f k (found ++ (subsOf bs a k).map tup3) a' (fs ++ ntl (fsOf bs a k)) y7, β⟩, .ok .nx)
  | [], found, a, fs, x7, _, _, _ => ⟨a, x7, by rw [subsOf, fsOf]; simp only [List.map_nil, List.append_nil]; rfl⟩
  | b :: bs, found, a, fs, x7, hb, hl, hl2 => by
    obtain ⟨ob, sb⟩ := hb b (by simp)
    rw [List.length_cons] at hl hl2
    obtain ⟨a', y7, ih⟩ := iin_loop n d f k β hq bs (found ++ [tup3 (b, a, k)]) (a + b.size) (fs ++ [nt (if b.isNil then k else a)]) (.dat (.tuple b.ds)) (fun c hc => hb c (by simp [hc])) (by rw [List.length_append]; simp; omega) (by rw [List.length_append]; simp; omega)
    refine ⟨a', y7, ?_⟩
    have s1 : mExpr (mAppend 4 (mTup [(mVar 7), (mVar 5), (mVar 3)])) ⟨li n d f k found a fs (.dat (.tuple b.ds)), β⟩ = some (⟨li n d f k (found ++ [tup3 (b, a, k)]) a fs (.dat (.tuple b.ds)), β⟩, .ok .nx) :=
      append_ok (i := 4) (ds := found) (s1 := ⟨li n d f k found a fs (.dat (.tuple b.ds)), β⟩) (d := tup3 (b, a, k)) rfl rfl rfl (by rw [sizeLine_eq]; omega)
    have s2 : mExpr (mAppend 6 (mIf (mIs (mBin cNe (mVar 7) (mTup []))) (mVar 5) (mVar 3))) ⟨li n d f k (found ++ [tup3 (b, a, k)]) a fs (.dat (.tuple b.ds)), β⟩ = some (⟨li n d f k (found ++ [tup3 (b, a, k)]) a (fs ++ [nt (if b.isNil then k else a)]) (.dat (.tuple b.ds)), β⟩, .ok .nx) := by
      refine append_ok (i := 6) (ds := fs) (s1 := ⟨li n d f k (found ++ [tup3 (b, a, k)]) a fs (.dat (.tuple b.ds)), β⟩) rfl ?_ rfl (by rw [sizeLine_eq]; omega)
      have ht : mIs (mBin cNe (mVar 7) (mTup [])) ⟨li n d f k (found ++ [tup3 (b, a, k)]) a fs (.dat (.tuple b.ds)), β⟩ = some (⟨li n d f k (found ++ [tup3 (b, a, k)]) a fs (.dat (.tuple b.ds)), β⟩, .ok (!b.isNil)) :=
        isD (binD (d1 := .tuple b.ds) (d2 := .tuple []) rfl rfl (ne_nil ob (by omega)))
      rw [if_ok ht]
      cases b.isNil <;> rfl
    have s3 : mAug 5 dAddI (mUn dLenD (mCall F_nodes_of [(mVar 7)])) ⟨li n d f k (found ++ [tup3 (b, a, k)]) a (fs ++ [nt (if b.isNil then k else a)]) (.dat (.tuple b.ds)), β⟩ = some (⟨li n d f k (found ++ [tup3 (b, a, k)]) (a + b.size) (fs ++ [nt (if b.isNil then k else a)]) (.dat (.tuple b.ds)), β⟩, .ok .nx) :=
      aug_ok (i := 5) rfl (len_nodes ob sb rfl)
    rw [List.map_cons, loopF]
    refine (bind_ok (show Tg.put (.nm 7) (.tuple b.ds) _ = some (⟨li n d f k found a fs (.dat (.tuple b.ds)), β⟩, .ok ()) from rfl)).trans ((bind_ok (a := .nx) (s' := ⟨li n d f k (found ++ [tup3 (b, a, k)]) (a + b.size) (fs ++ [nt (if b.isNil then k else a)]) (.dat (.tuple b.ds)), β⟩) ?_).trans ?_)
    · unfold m_iin
      rw [then_ok s1, then_ok s2]
      exact s3
    · refine ih.trans ?_
      rw [subsOf, fsOf]
      simp
abbrev LpM (d : D) (lp : Bool) : Prop := ∀ s : S, mVar 1 s = some (s, .ok (.dat d)) → mIs (mBin cIn (mBin dIx (mVar 1) (mC (.int 0))) (mTup [(mC (.str "while")), (mC (.str "loop"))])) s = some (s, .ok lp)
theorem inner_ok (β : Bag) (sts : List D) (Bk Fk : List (D × D)) (d : D) (f later : Nat) (bs : List B) (lp : Bool) {q : Nat} (hq : q ≤ 4) (hl : LpM d lp) (hb : ∀ β, F_bodies_of β [.dat d] = some (β, .ok (.dat (.tuple (bs.map fun b => .tuple b.ds))))) (ho : ∀ b ∈ bs, Ok b q ∧ b.size ≤ 400) (h2 : bs.length ≤ 2)
    (hB : lookD Bk (.inl (f : Int)) = some (nt later)) (hF : Fk.length ≤ 2000) :
    F_Layout_inner (lb β sts Bk Fk) [.ob β.os.length, .dat d, .dat (nt f)] = some (lb β sts Bk (putD Fk (nt f) (.list (ntl (fsOf bs (f + 1) (if lp then f else later))))), .ok (.fresh ((subsOf bs (f + 1) (if lp then f else later)).map tup3))) := by
  obtain ⟨a', y7, e4⟩ := iin_loop β.os.length d f (if lp then f else later) (lb β sts Bk Fk) hq bs [] (f + 1) [] .no ho (by simp; omega) (by simp; omega)
  rw [List.nil_append, List.nil_append] at e4
  have e1 : mSet 3 (mIf (mIs (mBin cIn (mBin dIx (mVar 1) (mC (.int 0))) (mTup [(mC (.str "while")), (mC (.str "loop"))]))) (mVar 2) (mBin dIxK (mFld "Layout" (mVar 0) "behind") (mVar 2))) ⟨[.ob β.os.length, .dat d, .dat (nt f), .no, .no, .no, .no, .no], lb β sts Bk Fk⟩ =
      some (⟨[.ob β.os.length, .dat d, .dat (nt f), .dat (nt (if lp then f else later)), .no, .no, .no, .no], lb β sts Bk Fk⟩, .ok .nx) := by
    refine set_ok (s' := ⟨[.ob β.os.length, .dat d, .dat (nt f), .no, .no, .no, .no, .no], lb β sts Bk Fk⟩) ((if_ok (hl _ rfl)).trans ?_)
    cases lp with
    | true => rfl
    | false => exact ix_b rfl rfl hB
  have e2 : mParL 4 5 6 [(mLst []), (mBin dAdd (mVar 2) (mC (.int 1))), (mLst [])] ⟨[.ob β.os.length, .dat d, .dat (nt f), .dat (nt (if lp then f else later)), .no, .no, .no, .no], lb β sts Bk Fk⟩ = some (⟨li β.os.length d f (if lp then f else later) [] (f + 1) [] .no, lb β sts Bk Fk⟩, .ok .nx) := by
    unfold li; rw [nt_succ]; rfl
  refine fnF_at (s := ⟨[.ob β.os.length, .dat d, .dat (nt f), .dat (nt (if lp then f else later)), .own ((subsOf bs (f + 1) (if lp then f else later)).map tup3), .dat (nt a'), .dat (.list (ntl (fsOf bs (f + 1) (if lp then f else later)))), y7], lb β sts Bk (putD Fk (nt f) (.list (ntl (fsOf bs (f + 1) (if lp then f else later)))))⟩) (r := .slot 4)
    ⟨[.ob β.os.length, .dat d, .dat (nt f), .no, .no, .no, .no, .no], lb β sts Bk Fk⟩ rfl ?_ rfl
  refine (then_ok e1).trans ((then_ok e2).trans ((then_ok ((bind_ok (show mSeq (mCall F_bodies_of [(mVar 1)]) _ = some (_, .ok (bs.map fun b => .tuple b.ds)) from (bind_ok (callD (as := [.dat d]) rfl (hb _))).trans rfl)).trans e4)).trans ?_))
  exact (then_ok (put_f (r := .slot 6) (ρ' := [.ob β.os.length, .dat d, .dat (nt f), .dat (nt (if lp then f else later)), .own ((subsOf bs (f + 1) (if lp then f else later)).map tup3), .dat (nt a'), .dat (.list (ntl (fsOf bs (f + 1) (if lp then f else later)))), y7]) rfl rfl rfl rfl hF)).trans rfl
end Pu
/-! S12 (k03): one round of the Layout. -/
namespace Pu
open PySem PySem.Spec PyProof.Rows L2
def m_i2 : M Fl := (mThen (mSet 9 (mBin dAdd (mC (.int 1)) (mUn dSum (mComp [11] (mSeq (mCall F_bodies_of [(mVar 8)])) (.nm 11) mYes (mUn dLenD (mCall F_nodes_of [(mVar 11)])))))) (mThen (mDPut (mFld "Layout" (mVar 0) "behind") (mVar 5) (mIf (mIs (mBin cLt (mBin dAdd (mVar 7) (mC (.int 1))) (mUn dLenD (mVar 4)))) (mBin dAdd (mVar 5) (mVar 9)) (mVar 6))) (mThen (mExpr (mExtend 3 (mMeth "Layout" "inner" F_Layout_inner (mVar 0) [(mVar 8), (mVar 5)]))) (mAug 5 dAddI (mVar 9)))))
/-- the frame: 0 self, 1 program, 2 end, 3 waiting, 4 body, 5 number, 6 behind, 7 at, 8 statement, 9 size, 10 many, 11 one -/
abbrev ly (n : Nat) (pg : D) (en : Nat) (st : List D) (x4 x5 x6 x7 x8 x9 : Sl) : List Sl := [.ob n, .dat pg, .dat (nt en), .own st, x4, x5, x6, x7, x8, x9, .no, .no]
theorem meth_ok {C m : Str} {F : Fn} {mo : M Rv} {ms : List (M Rv)} {s s1 : S} {n : Nat} {fs : List (Str × FV)} {as : List Ar} {β' : Bag} {r : Rs} (h : mo s = some (s, .ok (.ob n))) (e : s.β.os[n]? = some (.ins C fs)) (l : fs.lookup m = none) (ha : mArgs ms s = some (s1, .ok as)) (hF : F s1.β (.ob n :: as) = some (β', .ok r)) :
    mMeth C m F mo ms s = some ({ s1 with β := β' }, .ok r.rv) := by
  unfold mMeth
  refine (bind_ok h).trans ?_
  simp only [e]
  rw [if_pos ⟨trivial, l⟩]
  refine (bind_ok ha).trans ?_
  simp only [hF]
theorem lpm {d : D} {lp : Bool} {w : Str} {r : List D} (hd : d = .tuple (.str w :: r)) (h : cIn (.str w) (.tuple [.str "while", .str "loop"]) = some (.dat (.bool lp))) : LpM d lp := fun s hs => by
  subst hd
  exact isD (binD (d1 := .str w) (d2 := .tuple [.str "while", .str "loop"]) (binD (d1 := .tuple (.str w :: r)) (d2 := .int 0) hs rfl (ix0 _ _)) rfl h)
theorem lpm_leaf {w : Str} {as : List D} (h : Lf w as) : LpM (.tuple (.str w :: as)) false := by
  refine lpm rfl ?_
  cases h <;> kernel_rfl
theorem lpm_one {w : Str} {as : List D} (h : On w as) (b : D) : LpM (.tuple (.str w :: (as ++ [b]))) true := by
  refine lpm rfl ?_
  cases h <;> kernel_rfl
theorem lpm_two {w : Str} {as : List D} (h : Tw w as) (b c : D) : LpM (.tuple (.str w :: (as ++ [b, c]))) false := by
  refine lpm rfl ?_
  cases h <;> kernel_rfl
theorem i2_step (β : Bag) (sts : List D) (Bk Fk : List (D × D)) (pg : D) (en : Nat) (bds : List D) (st : List D) (f e i : Nat) (d : D) (bs : List B) (lp : Bool) (x7 x8 x9 : Sl) {q : Nat} (hq : q ≤ 4) (hl : LpM d lp) (hb : ∀ β, F_bodies_of β [.dat d] = some (β, .ok (.dat (.tuple (bs.map fun b => .tuple b.ds)))))
    (ho : ∀ b ∈ bs, Ok b q ∧ b.size ≤ 400) (h2 : bs.length ≤ 2) (later : Nat) (hlat : (if i + 1 < bds.length then f + 1 + szsOf bs else e) = later) (hB : Bk.length ≤ 1900) (hF : Fk.length ≤ 1900) (hs : st.length ≤ 1900) :
    m_i2 ⟨ly β.os.length pg en st (.dat (.tuple bds)) (.dat (nt f)) (.dat (nt e)) (.dat (nt i)) (.dat d) x9, lb β sts Bk Fk⟩ =
      some (⟨ly β.os.length pg en (st ++ (subsOf bs (f + 1) (if lp then f else later)).map tup3) (.dat (.tuple bds)) (.dat (nt (f + 1 + szsOf bs))) (.dat (nt e)) (.dat (nt i)) (.dat d) (.dat (nt (1 + szsOf bs))), lb β sts (putD Bk (nt f) (nt later)) (putD Fk (nt f) (.list (ntl (fsOf bs (f + 1) (if lp then f else later)))))⟩, .ok .nx) := by
  have hsz := szs_int bs
  have s1 : mSet 9 (mBin dAdd (mC (.int 1)) (mUn dSum (mComp [11] (mSeq (mCall F_bodies_of [(mVar 8)])) (.nm 11) mYes (mUn dLenD (mCall F_nodes_of [(mVar 11)]))))) ⟨ly β.os.length pg en st (.dat (.tuple bds)) (.dat (nt f)) (.dat (nt e)) (.dat (nt i)) (.dat d) x9, lb β sts Bk Fk⟩ =
      some (⟨ly β.os.length pg en st (.dat (.tuple bds)) (.dat (nt f)) (.dat (nt e)) (.dat (nt i)) (.dat d) (.dat (nt (1 + szsOf bs))), lb β sts Bk Fk⟩, .ok .nx) := by
    have es := sum_ok bs (fun b => .tuple b.ds) (fun b => (b.size : Int)) (vs := [11]) (mi := mSeq (mCall F_bodies_of [(mVar 8)])) (t := .nm 11) (me := mUn dLenD (mCall F_nodes_of [(mVar 11)])) (s := ⟨ly β.os.length pg en st (.dat (.tuple bds)) (.dat (nt f)) (.dat (nt e)) (.dat (nt i)) (.dat d) x9, lb β sts Bk Fk⟩) (s1 := ⟨ly β.os.length pg en st (.dat (.tuple bds)) (.dat (nt f)) (.dat (nt e)) (.dat (nt i)) (.dat d) x9, lb β sts Bk Fk⟩)
      ((bind_ok (callD (as := [.dat d]) rfl (hb _))).trans rfl) rfl
      (fun b hb => ⟨⟨[.ob β.os.length, .dat pg, .dat (nt en), .own st, .dat (.tuple bds), .dat (nt f), .dat (nt e), .dat (nt i), .dat d, x9, .no, .dat (.tuple b.ds)], lb β sts Bk Fk⟩, ⟨[.ob β.os.length, .dat pg, .dat (nt en), .own st, .dat (.tuple bds), .dat (nt f), .dat (nt e), .dat (nt i), .dat d, x9, .no, .dat (.tuple b.ds)], lb β sts Bk Fk⟩, rfl, len_nodes (ho b hb).1 (ho b hb).2 rfl, rfl⟩) (by rw [sizeLine_eq]; omega) rfl
    rw [hsz] at es
    rw [nt_add 1 (szsOf bs)]
    exact set_ok (s' := ⟨ly β.os.length pg en st (.dat (.tuple bds)) (.dat (nt f)) (.dat (nt e)) (.dat (nt i)) (.dat d) x9, lb β sts Bk Fk⟩) (binD (d1 := .int 1) (d2 := .int (szsOf bs : Int)) rfl es rfl)
  have s2 : mDPut (mFld "Layout" (mVar 0) "behind") (mVar 5) (mIf (mIs (mBin cLt (mBin dAdd (mVar 7) (mC (.int 1))) (mUn dLenD (mVar 4)))) (mBin dAdd (mVar 5) (mVar 9)) (mVar 6)) ⟨ly β.os.length pg en st (.dat (.tuple bds)) (.dat (nt f)) (.dat (nt e)) (.dat (nt i)) (.dat d) (.dat (nt (1 + szsOf bs))), lb β sts Bk Fk⟩ =
      some (⟨ly β.os.length pg en st (.dat (.tuple bds)) (.dat (nt f)) (.dat (nt e)) (.dat (nt i)) (.dat d) (.dat (nt (1 + szsOf bs))), lb β sts (putD Bk (nt f) (nt later)) Fk⟩, .ok .nx) := by
    refine put_b (r := .dat (nt later)) ?_ rfl rfl rfl (by omega)
    have ht : mIs (mBin cLt (mBin dAdd (mVar 7) (mC (.int 1))) (mUn dLenD (mVar 4))) ⟨ly β.os.length pg en st (.dat (.tuple bds)) (.dat (nt f)) (.dat (nt e)) (.dat (nt i)) (.dat d) (.dat (nt (1 + szsOf bs))), lb β sts Bk Fk⟩ =
        some (⟨ly β.os.length pg en st (.dat (.tuple bds)) (.dat (nt f)) (.dat (nt e)) (.dat (nt i)) (.dat d) (.dat (nt (1 + szsOf bs))), lb β sts Bk Fk⟩, .ok (decide ((i : Int) + 1 < (bds.length : Int)))) := isD rfl
    refine (if_ok ht).trans ?_
    by_cases z : i + 1 < bds.length
    · rw [if_pos z] at hlat
      rw [decide_eq_true (by omega), ← hlat, show f + 1 + szsOf bs = f + (1 + szsOf bs) by omega, nt_add f]
      rfl
    · rw [if_neg z] at hlat
      rw [decide_eq_false (by omega), ← hlat]
      rfl
  have hBl : lookD (putD Bk (nt f) (nt later)) (.inl (f : Int)) = some (nt later) := by rw [look_put (k0 := .inl (f : Int)) rfl, if_pos rfl]
  have s3 : mMeth "Layout" "inner" F_Layout_inner (mVar 0) [(mVar 8), (mVar 5)] ⟨ly β.os.length pg en st (.dat (.tuple bds)) (.dat (nt f)) (.dat (nt e)) (.dat (nt i)) (.dat d) (.dat (nt (1 + szsOf bs))), lb β sts (putD Bk (nt f) (nt later)) Fk⟩ =
      some (⟨ly β.os.length pg en st (.dat (.tuple bds)) (.dat (nt f)) (.dat (nt e)) (.dat (nt i)) (.dat d) (.dat (nt (1 + szsOf bs))), lb β sts (putD Bk (nt f) (nt later)) (putD Fk (nt f) (.list (ntl (fsOf bs (f + 1) (if lp then f else later)))))⟩, .ok (.fresh ((subsOf bs (f + 1) (if lp then f else later)).map tup3))) :=
    meth_ok (as := [.dat d, .dat (nt f)]) (s1 := ⟨ly β.os.length pg en st (.dat (.tuple bds)) (.dat (nt f)) (.dat (nt e)) (.dat (nt i)) (.dat d) (.dat (nt (1 + szsOf bs))), lb β sts (putD Bk (nt f) (nt later)) Fk⟩) rfl (show (lay β.os sts (putD Bk (nt f) (nt later)) Fk)[β.os.length]? = some (.ins "Layout" (fsL β.os.length sts)) from get0 _ _ _) rfl rfl
      (inner_ok β sts (putD Bk (nt f) (nt later)) Fk d f later bs lp hq hl hb ho h2 hBl (by omega))
  have lsub : ((subsOf bs (f + 1) (if lp then f else later)).map tup3).length ≤ 2 := by
    rw [List.length_map]
    have : ∀ (bs : List B) (x y : Nat), (subsOf bs x y).length = bs.length := fun bs => by
      induction bs with
      | nil => intro x y; rfl
      | cons b bs ih => intro x y; rw [subsOf, List.length_cons, ih, List.length_cons]
    rw [this]; exact h2
  unfold m_i2
  refine (then_ok s1).trans ((then_ok s2).trans ((then_ok (extend_ok (i := 3) (ds := st) rfl s3 rfl (by omega))).trans ?_))
  rw [show f + 1 + szsOf bs = f + (1 + szsOf bs) by omega]
  exact aug_ok (i := 5) rfl rfl
def B.tops : B → Nat → Nat → List En
  | .nil, _, _ => []
  | .leaf w as r, f, e => ⟨.tuple (.str w :: as), f, [], if r.isNil then e else f + 1⟩ :: r.tops (f + 1) e
  | .one w as b r, f, e => ⟨.tuple (.str w :: (as ++ [.tuple b.ds])), f, fsOf [b] (f + 1) f, if r.isNil then e else f + 1 + b.size⟩ :: r.tops (f + 1 + b.size) e
  | .two w as b c r, f, e => ⟨.tuple (.str w :: (as ++ [.tuple b.ds, .tuple c.ds])), f, fsOf [b, c] (f + 1) (if r.isNil then e else f + 1 + (b.size + c.size)), if r.isNil then e else f + 1 + (b.size + c.size)⟩ :: r.tops (f + 1 + (b.size + c.size)) e
def B.subs : B → Nat → Nat → List Sub3
  | .nil, _, _ => []
  | .leaf w as r, f, e => r.subs (f + 1) e
  | .one w as b r, f, e => (b, f + 1, f) :: r.subs (f + 1 + b.size) e
  | .two w as b c r, f, e => (b, f + 1, if r.isNil then e else f + 1 + (b.size + c.size)) :: (c, f + 1 + b.size, if r.isNil then e else f + 1 + (b.size + c.size)) :: r.subs (f + 1 + (b.size + c.size)) e
def putsB (Bk : List (D × D)) : List En → List (D × D)
  | [] => Bk
  | x :: xs => putsB (putD Bk (nt x.at_) (nt x.later)) xs
def putsF (Fk : List (D × D)) : List En → List (D × D)
  | [] => Fk
  | x :: xs => putsF (putD Fk (nt x.at_) (.list (ntl x.fs))) xs
theorem put78 (n : Nat) (pg : D) (en : Nat) (st : List D) (x4 x5 x6 x7 x8 x9 : Sl) (i : Nat) (d : D) (β : Bag) : Tg.put (.tup [(.nm 7), (.nm 8)]) (.tuple [nt i, d]) ⟨ly n pg en st x4 x5 x6 x7 x8 x9, β⟩ = some (⟨ly n pg en st x4 x5 x6 (.dat (nt i)) (.dat d) x9, β⟩, .ok ()) := rfl
theorem i2_loop (β : Bag) (sts : List D) (pg : D) (en : Nat) (bds : List D) (e : Nat) : ∀ (b : B) (n : Nat), Ok b n → n ≤ 5 → b.size ≤ 400 → ∀ (i f : Nat) (st : List D) (Bk Fk : List (D × D)) (x7 x8 x9 : Sl), i + b.len = bds.length → Bk.length + b.size ≤ 1000 → Fk.length + b.size ≤ 1000 → st.length + 2 * b.size ≤ 1000 →
    ∃ y7 y8 y9, loopF (Tg.put (.tup [(.nm 7), (.nm 8)])) m_i2 (numD i b.ds) ⟨ly β.os.length pg en st (.dat (.tuple bds)) (.dat (nt f)) (.dat (nt e)) x7 x8 x9, lb β sts Bk Fk⟩ =
      some (⟨ly β.os.length pg en (st ++ (b.subs f e).map tup3) (.dat (.tuple bds)) (.dat (nt (f + b.size))) (.dat (nt e)) y7 y8 y9, lb β sts (putsB Bk (b.tops f e)) (putsF Fk (b.tops f e))⟩, .ok .nx)
  | .nil, n, h, hn, hs, i, f, st, Bk, Fk, x7, x8, x9, hL, hB, hF, hst => ⟨x7, x8, x9, by rw [B.subs, B.tops, B.ds, B.size, numD, putsB, putsF]; simp only [List.map_nil, List.append_nil, Nat.add_zero]; rfl⟩
  | .leaf w as r, n, h, hn, hs, i, f, st, Bk, Fk, x7, x8, x9, hL, hB, hF, hst => by
    rw [B.size] at hs hB hF hst
    rw [B.len] at hL
    have st1 := i2_step β sts Bk Fk pg en bds st f e i (.tuple (.str w :: as)) [] false x7 x8 x9 (q := 0) (by omega) (lpm_leaf h.1) (fun β => bo_leaf β h.1) (fun b hb => nomatch hb) (by simp) (if r.isNil then e else f + 1) (by rw [if_lt (b := r) (by omega)]; rfl) (by omega) (by omega) (by omega)
    obtain ⟨y7, y8, y9, ih⟩ := i2_loop β sts pg en bds e r n h.2.2 hn (by omega) (i + 1) (f + 1) st (putD Bk (nt f) (nt (if r.isNil then e else f + 1))) (putD Fk (nt f) (.list [])) (.dat (nt i)) (.dat (.tuple (.str w :: as))) (.dat (nt (1 + szsOf []))) (by omega) (by have := put_len (kvs := Bk) (k := nt f) (d := nt (if r.isNil then e else f + 1)); omega) (by have := put_len (kvs := Fk) (k := nt f) (d := .list []); omega) (by omega)
    refine ⟨y7, y8, y9, ?_⟩
    rw [B.ds, numD_cons, loopF, B.subs, B.tops, B.size, putsB, putsF]
    refine (bind_ok (put78 ..)).trans ((bind_ok st1).trans ?_)
    rw [show f + (1 + r.size) = f + 1 + r.size by omega]
    rw [show subsOf [] (f + 1) (if (false : Bool) = true then f else if r.isNil then e else f + 1) = [] from rfl, List.map_nil, List.append_nil]
    exact ih
  | .one w as b r, n, h, hn, hs, i, f, st, Bk, Fk, x7, x8, x9, hL, hB, hF, hst => by
    rw [B.size] at hs hB hF hst
    rw [B.len] at hL
    obtain ⟨h0, h1, h2, ⟨m, rfl, h3⟩, h4⟩ := h
    have st1 := i2_step β sts Bk Fk pg en bds st f e i (.tuple (.str w :: (as ++ [.tuple b.ds]))) [b] true x7 x8 x9 (q := m) (by omega) (lpm_one h0 _) (fun β => bo_one β h0 _) (fun c hc => by rw [List.mem_singleton.mp hc]; exact ⟨h3, by omega⟩) (by simp) (if r.isNil then e else f + 1 + b.size) (by rw [if_lt (b := r) (by omega)]; simp [szsOf]) (by omega) (by omega) (by omega)
    have lz : szsOf [b] = b.size := by simp [szsOf]
    rw [lz] at st1
    obtain ⟨y7, y8, y9, ih⟩ := i2_loop β sts pg en bds e r (m + 1) h4 hn (by omega) (i + 1) (f + 1 + b.size) (st ++ [tup3 (b, f + 1, f)]) (putD Bk (nt f) (nt (if r.isNil then e else f + 1 + b.size))) (putD Fk (nt f) (.list (ntl (fsOf [b] (f + 1) f)))) (.dat (nt i)) (.dat (.tuple (.str w :: (as ++ [.tuple b.ds])))) (.dat (nt (1 + b.size))) (by omega) (by have := put_len (kvs := Bk) (k := nt f) (d := nt (if r.isNil then e else f + 1 + b.size)); omega) (by have := put_len (kvs := Fk) (k := nt f) (d := .list (ntl (fsOf [b] (f + 1) f))); omega) (by rw [List.length_append]; simp; omega)
    refine ⟨y7, y8, y9, ?_⟩
    rw [B.ds, numD_cons, loopF, B.subs, B.tops, B.size, putsB, putsF]
    refine (bind_ok (put78 ..)).trans ((bind_ok st1).trans ?_)
    rw [show f + (1 + b.size + r.size) = f + 1 + b.size + r.size by omega, List.map_cons, show st ++ tup3 (b, f + 1, f) :: (r.subs (f + 1 + b.size) e).map tup3 = (st ++ [tup3 (b, f + 1, f)]) ++ (r.subs (f + 1 + b.size) e).map tup3 by simp]
    exact ih
  | .two w as b c r, n, h, hn, hs, i, f, st, Bk, Fk, x7, x8, x9, hL, hB, hF, hst => by
    rw [B.size] at hs hB hF hst
    rw [B.len] at hL
    obtain ⟨h0, h1, h2, h2', ⟨m, rfl, h3, h3'⟩, h4⟩ := h
    have st1 := i2_step β sts Bk Fk pg en bds st f e i (.tuple (.str w :: (as ++ [.tuple b.ds, .tuple c.ds]))) [b, c] false x7 x8 x9 (q := m) (by omega) (lpm_two h0 _ _) (fun β => bo_two β h0 _ _) (fun q hc => by
      simp only [List.mem_cons, List.not_mem_nil, or_false] at hc
      rcases hc with rfl | rfl
      · exact ⟨h3, by omega⟩
      · exact ⟨h3', by omega⟩) (by simp) (if r.isNil then e else f + 1 + (b.size + c.size)) (by rw [if_lt (b := r) (by omega)]; simp [szsOf]) (by omega) (by omega) (by omega)
    have lz : szsOf [b, c] = b.size + c.size := by simp [szsOf]
    rw [lz] at st1
    generalize hz : (if r.isNil then e else f + 1 + (b.size + c.size)) = lt at st1
    obtain ⟨y7, y8, y9, ih⟩ := i2_loop β sts pg en bds e r (m + 1) h4 hn (by omega) (i + 1) (f + 1 + (b.size + c.size)) (st ++ [tup3 (b, f + 1, lt), tup3 (c, f + 1 + b.size, lt)]) (putD Bk (nt f) (nt lt)) (putD Fk (nt f) (.list (ntl (fsOf [b, c] (f + 1) lt)))) (.dat (nt i)) (.dat (.tuple (.str w :: (as ++ [.tuple b.ds, .tuple c.ds])))) (.dat (nt (1 + (b.size + c.size)))) (by omega) (by have := put_len (kvs := Bk) (k := nt f) (d := nt lt); omega) (by have := put_len (kvs := Fk) (k := nt f) (d := .list (ntl (fsOf [b, c] (f + 1) lt))); omega) (by rw [List.length_append]; simp; omega)
    refine ⟨y7, y8, y9, ?_⟩
    rw [B.ds, numD_cons, loopF, B.subs, B.tops, B.size, putsB, putsF, hz]
    refine (bind_ok (put78 ..)).trans ((bind_ok st1).trans ?_)
    rw [show f + (1 + b.size + c.size + r.size) = f + 1 + (b.size + c.size) + r.size by omega, List.map_cons, List.map_cons, show st ++ tup3 (b, f + 1, lt) :: tup3 (c, f + 1 + b.size, lt) :: (r.subs (f + 1 + (b.size + c.size)) e).map tup3 = (st ++ [tup3 (b, f + 1, lt), tup3 (c, f + 1 + b.size, lt)]) ++ (r.subs (f + 1 + (b.size + c.size)) e).map tup3 by simp]
    exact ih
end Pu
/-! S13 (k03): the Layout's rounds. -/
namespace Pu
open PySem PySem.Spec PyProof.Rows L2
def wt (W : List Sub3) : Nat := (W.map fun w => 1 + 3 * w.1.size).sum
theorem wt_app (a b : List Sub3) : wt (a ++ b) = wt a + wt b := by unfold wt; rw [List.map_append, List.sum_append]
theorem wt_cons (w : Sub3) (b : List Sub3) : wt (w :: b) = 1 + 3 * w.1.size + wt b := by unfold wt; rw [List.map_cons, List.sum_cons]
theorem wt_len : ∀ W : List Sub3, W.length ≤ wt W
  | [] => Nat.zero_le _
  | w :: W => by rw [wt_cons, List.length_cons]; have := wt_len W; omega
theorem wt_subs : ∀ (b : B) (f e : Nat), wt (b.subs f e) + b.len ≤ 3 * b.size
  | .nil, f, e => Nat.le_refl _
  | .leaf w as r, f, e => by rw [B.subs, B.len, B.size]; have := wt_subs r (f + 1) e; omega
  | .one w as b r, f, e => by rw [B.subs, B.len, B.size, wt_cons]; have := wt_subs r (f + 1 + b.size) e; show 1 + 3 * b.size + _ + _ ≤ _; omega
  | .two w as b c r, f, e => by rw [B.subs, B.len, B.size, wt_cons, wt_cons]; have := wt_subs r (f + 1 + (b.size + c.size)) e; show 1 + 3 * b.size + (1 + 3 * c.size + _) + _ ≤ _; omega
theorem tops_len : ∀ (b : B) (f e : Nat), (b.tops f e).length = b.len
  | .nil, f, e => rfl
  | .leaf w as r, f, e => by rw [B.tops, B.len, List.length_cons, tops_len r]
  | .one w as b r, f, e => by rw [B.tops, B.len, List.length_cons, tops_len r]
  | .two w as b c r, f, e => by rw [B.tops, B.len, List.length_cons, tops_len r]
theorem putsB_len : ∀ (xs : List En) (Bk : List (D × D)), (putsB Bk xs).length ≤ Bk.length + xs.length
  | [], Bk => Nat.le_refl _
  | x :: xs, Bk => by rw [putsB, List.length_cons]; have := putsB_len xs (putD Bk (nt x.at_) (nt x.later)); have := put_len (kvs := Bk) (k := nt x.at_) (d := nt x.later); omega
theorem putsF_len : ∀ (xs : List En) (Bk : List (D × D)), (putsF Bk xs).length ≤ Bk.length + xs.length
  | [], Bk => Nat.le_refl _
  | x :: xs, Bk => by rw [putsF, List.length_cons]; have := putsF_len xs (putD Bk (nt x.at_) (.list (ntl x.fs))); have := put_len (kvs := Bk) (k := nt x.at_) (d := .list (ntl x.fs)); omega
theorem key_inj {a b : Nat} : (Sum.inl (a : Int) : Key) = .inl (b : Int) ↔ a = b := ⟨fun h => by have := Sum.inl.inj h; omega, fun h => by rw [h]⟩
theorem putsB_look (x : En) : ∀ (xs : List En) (Bk : List (D × D)), (∀ y ∈ xs, y.at_ = x.at_ → y = x) → (x ∈ xs ∨ lookD Bk (.inl (x.at_ : Int)) = some (nt x.later)) → lookD (putsB Bk xs) (.inl (x.at_ : Int)) = some (nt x.later)
  | [], Bk, _, h => by rcases h with h | h; cases h; exact h
  | y :: ys, Bk, hu, h => by
    rw [putsB]
    refine putsB_look x ys _ (fun z hz => hu z (by simp [hz])) ?_
    rw [look_put (k0 := .inl (y.at_ : Int)) rfl]
    by_cases q : y.at_ = x.at_
    · right
      rw [if_pos (by rw [q]), hu y (by simp) q]
    · rw [if_neg (by rw [key_inj]; exact q)]
      rcases h with h | h
      · (rcases List.mem_cons.mp h with rfl | h)
        · exact absurd rfl q
        · exact .inl h
      · exact .inr h
theorem putsF_look (x : En) : ∀ (xs : List En) (Bk : List (D × D)), (∀ y ∈ xs, y.at_ = x.at_ → y = x) → (x ∈ xs ∨ lookD Bk (.inl (x.at_ : Int)) = some (.list (ntl x.fs))) → lookD (putsF Bk xs) (.inl (x.at_ : Int)) = some (.list (ntl x.fs))
  | [], Bk, _, h => by rcases h with h | h; cases h; exact h
  | y :: ys, Bk, hu, h => by
    rw [putsF]
    refine putsF_look x ys _ (fun z hz => hu z (by simp [hz])) ?_
    rw [look_put (k0 := .inl (y.at_ : Int)) rfl]
    by_cases q : y.at_ = x.at_
    · right
      rw [if_pos (by rw [q]), hu y (by simp) q]
    · rw [if_neg (by rw [key_inj]; exact q)]
      rcases h with h | h
      · (rcases List.mem_cons.mp h with rfl | h)
        · exact absurd rfl q
        · exact .inl h
      · exact .inr h
theorem laid_split (x : En) : ∀ (b : B) (f e : Nat), x ∈ b.laid f e ↔ x ∈ b.tops f e ∨ ∃ w ∈ b.subs f e, x ∈ w.1.laid w.2.1 w.2.2
  | .nil, f, e => by simp [B.laid, B.tops, B.subs]
  | .leaf w as r, f, e => by
    rw [B.laid, B.tops, B.subs, List.mem_cons, List.mem_cons, laid_split x r, or_assoc]
  | .one w as b r, f, e => by
    rw [B.laid, B.tops, B.subs, List.mem_cons, List.mem_cons, List.mem_append, laid_split x r]
    constructor
    · rintro (h | h | h | ⟨w, h1, h2⟩)
      · exact .inl (.inl h)
      · exact .inr ⟨_, List.mem_cons_self, h⟩
      · exact .inl (.inr h)
      · exact .inr ⟨w, List.mem_cons_of_mem _ h1, h2⟩
    · rintro ((h | h) | ⟨w, h1, h2⟩)
      · exact .inl h
      · exact .inr (.inr (.inl h))
      · rcases List.mem_cons.mp h1 with rfl | h1
        · exact .inr (.inl h2)
        · exact .inr (.inr (.inr ⟨w, h1, h2⟩))
  | .two w as b c r, f, e => by
    rw [B.laid, B.tops, B.subs, List.mem_cons, List.mem_cons, List.mem_append, List.mem_append, laid_split x r]
    constructor
    · rintro (h | h | h | h | ⟨w, h1, h2⟩)
      · exact .inl (.inl h)
      · exact .inr ⟨_, List.mem_cons_self, h⟩
      · exact .inr ⟨_, List.mem_cons_of_mem _ List.mem_cons_self, h⟩
      · exact .inl (.inr h)
      · exact .inr ⟨w, List.mem_cons_of_mem _ (List.mem_cons_of_mem _ h1), h2⟩
    · rintro ((h | h) | ⟨w, h1, h2⟩)
      · exact .inl h
      · exact .inr (.inr (.inr (.inl h)))
      · rcases List.mem_cons.mp h1 with rfl | h1
        · exact .inr (.inl h2)
        · rcases List.mem_cons.mp h1 with rfl | h1
          · exact .inr (.inr (.inl h2))
          · exact .inr (.inr (.inr (.inr ⟨w, h1, h2⟩)))
theorem subs_ok : ∀ (b : B) (n f e : Nat), Ok b n → ∀ w ∈ b.subs f e, Ok w.1 n ∧ w.1.size ≤ b.size
  | .nil, n, f, e, h, w, hw => nomatch hw
  | .leaf w0 as r, n, f, e, h, w, hw => by
    rw [B.subs] at hw
    have := subs_ok r n _ _ h.2.2 w hw
    rw [B.size]
    exact ⟨this.1, by omega⟩
  | .one w0 as b r, n, f, e, h, w, hw => by
    rw [B.subs] at hw
    obtain ⟨h0, h1, h2, ⟨m, rfl, h3⟩, h4⟩ := h
    rw [B.size]
    rcases List.mem_cons.mp hw with rfl | hw
    · exact ⟨ok_mono h3 (by omega), by show b.size ≤ _; omega⟩
    · have := subs_ok r _ _ _ h4 w hw
      exact ⟨this.1, by omega⟩
  | .two w0 as b c r, n, f, e, h, w, hw => by
    rw [B.subs] at hw
    obtain ⟨h0, h1, h2, h2', ⟨m, rfl, h3, h3'⟩, h4⟩ := h
    rw [B.size]
    rcases List.mem_cons.mp hw with rfl | hw
    · exact ⟨ok_mono h3 (by omega), by show b.size ≤ _; omega⟩
    · rcases List.mem_cons.mp hw with rfl | hw
      · exact ⟨ok_mono h3' (by omega), by show c.size ≤ _; omega⟩
      · have := subs_ok r _ _ _ h4 w hw
        exact ⟨this.1, by omega⟩
def Done (Bk Fk : List (D × D)) (x : En) : Prop := lookD Bk (.inl (x.at_ : Int)) = some (nt x.later) ∧ lookD Fk (.inl (x.at_ : Int)) = some (.list (ntl x.fs))
structure Inv3 (L0 : List En) (W : List Sub3) (Bk Fk : List (D × D)) : Prop where
  ok : ∀ w ∈ W, Ok w.1 4 ∧ w.1.size ≤ 400
  sub : ∀ w ∈ W, ∀ x ∈ w.1.laid w.2.1 w.2.2, x ∈ L0
  cov : ∀ x ∈ L0, Done Bk Fk x ∨ ∃ w ∈ W, x ∈ w.1.laid w.2.1 w.2.2
  lb : Bk.length + wt W ≤ 900
  lf : Fk.length + wt W ≤ 900
def m_ib : M Fl := (mThen (mAsg (.tup [(.nm 4), (.nm 5), (.nm 6)]) (mPop 3)) (mFor (mNum (mVar 4)) (.tup [(.nm 7), (.nm 8)]) m_i2))
theorem work (β : Bag) (sts : List D) (pg : D) (en : Nat) (L0 : List En) (hu : ∀ x ∈ L0, ∀ y ∈ L0, x.at_ = y.at_ → x = y) : ∀ (fuel : Nat) (W : List Sub3) (Bk Fk : List (D × D)) (x4 x5 x6 x7 x8 x9 : Sl), Inv3 L0 W Bk Fk → wt W < fuel →
    ∃ Bk' Fk' y4 y5 y6 y7 y8 y9, loopW (mTru (mVar 3)) m_ib fuel ⟨ly β.os.length pg en (W.map tup3) x4 x5 x6 x7 x8 x9, lb β sts Bk Fk⟩ = some (⟨ly β.os.length pg en [] y4 y5 y6 y7 y8 y9, lb β sts Bk' Fk'⟩, .ok .nx) ∧ ∀ x ∈ L0, Done Bk' Fk' x
  | 0, W, Bk, Fk, x4, x5, x6, x7, x8, x9, I, hf => by omega
  | fuel + 1, W, Bk, Fk, x4, x5, x6, x7, x8, x9, I, hf => by
    rcases List.eq_nil_or_concat W with rfl | ⟨W', ⟨b, f, e⟩, rfl⟩
    · refine ⟨Bk, Fk, x4, x5, x6, x7, x8, x9, loopW_end (tru_own (i := 3) (xs := []) rfl rfl), fun x hx => ?_⟩
      rcases I.cov x hx with h | ⟨w, hw, _⟩
      · exact h
      · cases hw
    · rw [List.concat_eq_append] at I hf ⊢
      have hw : (b, f, e) ∈ W' ++ [(b, f, e)] := by simp
      obtain ⟨ob, sb⟩ := I.ok _ hw
      have ob : Ok b 4 := ob
      have sb : b.size ≤ 400 := sb
      have hwt : wt (W' ++ [(b, f, e)]) = wt W' + (1 + 3 * b.size) := by rw [wt_app, wt_cons]; rfl
      have lb1 := I.lb
      have lf1 := I.lf
      have lW := wt_len W'
      have lS := wt_subs b f e
      have lT := tops_len b f e
      obtain ⟨y7, y8, y9, e2⟩ := i2_loop β sts pg en b.ds e b 4 ob (by omega) sb 0 f (W'.map tup3) Bk Fk x7 x8 x9 (by rw [B.ds_len]; omega) (by omega) (by omega) (by rw [List.length_map]; omega)
      have e1 : mAsg (.tup [(.nm 4), (.nm 5), (.nm 6)]) (mPop 3) ⟨ly β.os.length pg en ((W' ++ [(b, f, e)]).map tup3) x4 x5 x6 x7 x8 x9, lb β sts Bk Fk⟩ = some (⟨ly β.os.length pg en (W'.map tup3) (.dat (.tuple b.ds)) (.dat (nt f)) (.dat (nt e)) x7 x8 x9, lb β sts Bk Fk⟩, .ok .nx) := by
        rw [List.map_append]
        exact (bind_ok (pop_own (i := 3) (xs := W'.map tup3) (d := tup3 (b, f, e)) rfl)).trans rfl
      have st : m_ib ⟨ly β.os.length pg en ((W' ++ [(b, f, e)]).map tup3) x4 x5 x6 x7 x8 x9, lb β sts Bk Fk⟩ = some (⟨ly β.os.length pg en ((W' ++ b.subs f e).map tup3) (.dat (.tuple b.ds)) (.dat (nt (f + b.size))) (.dat (nt e)) y7 y8 y9, lb β sts (putsB Bk (b.tops f e)) (putsF Fk (b.tops f e))⟩, .ok .nx) := by
        unfold m_ib
        rw [then_ok e1, List.map_append]
        exact (bind_ok (show mNum (mVar 4) _ = some (_, .ok (numD 0 b.ds)) from rfl)).trans e2
      have topsIn : ∀ y ∈ b.tops f e, y ∈ L0 := fun y hy => I.sub _ hw y ((laid_split y b f e).mpr (.inl hy))
      have I2 : Inv3 L0 (W' ++ b.subs f e) (putsB Bk (b.tops f e)) (putsF Fk (b.tops f e)) := by
        refine ⟨fun w h => ?_, fun w h x hx => ?_, fun x hx => ?_, ?_, ?_⟩
        · (rcases List.mem_append.mp h with h | h)
          · exact I.ok w (by simp [h])
          · have := subs_ok b 4 f e ob w h
            exact ⟨this.1, by omega⟩
        · (rcases List.mem_append.mp h with h | h)
          · exact I.sub w (by simp [h]) x hx
          · exact I.sub _ hw x ((laid_split x b f e).mpr (.inr ⟨w, h, hx⟩))
        · have keep : Done Bk Fk x ∨ x ∈ b.tops f e → Done (putsB Bk (b.tops f e)) (putsF Fk (b.tops f e)) x := fun h =>
            ⟨putsB_look x _ _ (fun y hy q => hu y (topsIn y hy) x hx q) (h.elim (fun h => .inr h.1) .inl), putsF_look x _ _ (fun y hy q => hu y (topsIn y hy) x hx q) (h.elim (fun h => .inr h.2) .inl)⟩
          rcases I.cov x hx with h | ⟨w, h1, h2⟩
          · exact .inl (keep (.inl h))
          · rcases List.mem_append.mp h1 with h1 | h1
            · exact .inr ⟨w, by simp [h1], h2⟩
            · rw [List.mem_singleton] at h1
              subst h1
              rcases (laid_split x b f e).mp h2 with h3 | ⟨w, h3, h4⟩
              · exact .inl (keep (.inr h3))
              · exact .inr ⟨w, by simp [h3], h4⟩
        · have := putsB_len (b.tops f e) Bk
          rw [wt_app]
          omega
        · have := putsF_len (b.tops f e) Fk
          rw [wt_app]
          omega
      obtain ⟨Bk', Fk', z4, z5, z6, z7, z8, z9, e3, hd⟩ := work β sts pg en L0 hu fuel (W' ++ b.subs f e) (putsB Bk (b.tops f e)) (putsF Fk (b.tops f e)) (.dat (.tuple b.ds)) (.dat (nt (f + b.size))) (.dat (nt e)) y7 y8 y9 I2 (by rw [wt_app]; omega)
      refine ⟨Bk', Fk', z4, z5, z6, z7, z8, z9, ?_, hd⟩
      rw [loopW_step (tru_more (i := 3) (xs := W'.map tup3) (d := tup3 (b, f, e)) rfl (by rw [List.map_append]; rfl)) st]
      exact e3
end Pu
/-! S14 (k03): a Layout is made. -/
namespace Pu
open PySem PySem.Spec PyProof.Rows L2
def fstD : D → D
  | .tuple (d :: _) => d
  | _ => .none
theorem nd_fst : ∀ (b : B) (k f e : Nat), (b.nd k).map fstD = (b.laid f e).map En.d
  | .nil, k, f, e => rfl
  | .leaf w as r, k, f, e => by rw [B.nd, B.laid, List.map_cons, List.map_cons, nd_fst r k]; rfl
  | .one w as b r, k, f, e => by rw [B.nd, B.laid, List.map_cons, List.map_cons, List.map_append, List.map_append, nd_fst b (k + 1), nd_fst r k]; rfl
  | .two w as b c r, k, f, e => by rw [B.nd, B.laid, List.map_cons, List.map_cons, List.map_append, List.map_append, List.map_append, List.map_append, nd_fst b (k + 1), nd_fst c (k + 1), nd_fst r k]; rfl
theorem nd_two : ∀ (b : B) (k : Nat), ∀ o ∈ b.nd k, ∃ d j, o = .tuple [d, nt j]
  | .nil, k, o, ho => nomatch ho
  | .leaf w as r, k, o, ho => by
    rw [B.nd] at ho
    rcases List.mem_cons.mp ho with rfl | ho
    · exact ⟨_, _, rfl⟩
    · exact nd_two r k o ho
  | .one w as b r, k, o, ho => by
    rw [B.nd] at ho
    rcases List.mem_cons.mp ho with rfl | ho
    · exact ⟨_, _, rfl⟩
    · rcases List.mem_append.mp ho with ho | ho
      · exact nd_two b _ o ho
      · exact nd_two r k o ho
  | .two w as b c r, k, o, ho => by
    rw [B.nd] at ho
    rcases List.mem_cons.mp ho with rfl | ho
    · exact ⟨_, _, rfl⟩
    · rcases List.mem_append.mp ho with ho | ho
      · exact nd_two b _ o ho
      · rcases List.mem_append.mp ho with ho | ho
        · exact nd_two c _ o ho
        · exact nd_two r k o ho
theorem set_fld {C f : Str} {mo mv : M Rv} {s s1 s2 : S} {n : Nat} {fs : List (Str × FV)} {r : Rv} {x : FV} (hv : mv s = some (s1, .ok r)) (hr : retainV r s1 = some (s2, .ok x)) (ho : mo s2 = some (s2, .ok (.ob n))) (e : s2.β.os[n]? = some (.ins C fs)) (hl : fs.length < 1000) :
    mFldSet C mo f mv s = some (s2.putCell n (.ins C (putFV f x fs)), .ok .nx) := by
  unfold mFldSet
  refine (bind_ok hv).trans ((bind_ok hr).trans ((bind_ok ho).trans ?_))
  simp only [e]
  rw [if_pos ⟨trivial, hl⟩]
theorem uniq_at {L : List En} (h : (L.map En.at_).Nodup) : ∀ x ∈ L, ∀ y ∈ L, x.at_ = y.at_ → x = y := by
  induction L with
  | nil => intro x hx; cases hx
  | cons a L ih =>
    (rw [List.map_cons, List.nodup_cons] at h)
    intro x hx y hy e
    rcases List.mem_cons.mp hx with hx1 | hx1
    · rcases List.mem_cons.mp hy with hy1 | hy1
      · rw [hx1, hy1]
      · exact absurd (by rw [← hx1, e]; exact List.mem_map_of_mem hy1) h.1
    · rcases List.mem_cons.mp hy with hy1 | hy1
      · exact absurd (by rw [← hy1, ← e]; exact List.mem_map_of_mem hx1) h.1
      · exact ih h.2 x hx1 y hy1 e
/-- a program's parts that are read -/
structure PrOk (ps : List D) (b : B) : Prop where
  four : dIx (.tuple ps) (.int 4) = some (.dat (.tuple []))
  five : dIx (.tuple ps) (.int 5) = some (.dat (.tuple b.ds))
abbrev i0 (n : Nat) (pg : D) (x2 x3 : Sl) : List Sl := [.ob n, .dat pg, x2, x3, .no, .no, .no, .no, .no, .no, .no, .no]
theorem init_ok (β : Bag) (ps : List D) (b : B) (hp : PrOk ps b) (ok : Ok b 4) (sb : b.size ≤ 100) :
    ∃ Bk Fk, F_Layout_init { β with os := β.os ++ [.ins "Layout" []] } [.ob β.os.length, .dat (.tuple ps)] = some (lb β ((b.laid 0 b.size).map En.d) Bk Fk, .ok (.dat .none)) ∧ ∀ x ∈ b.laid 0 b.size, Done Bk Fk x := by
  have hu := uniq_at (L := b.laid 0 b.size) (by rw [ats]; exact List.nodup_range')
  have I : Inv3 (b.laid 0 b.size) [(b, 0, b.size)] [] [] := by
    refine ⟨fun w hw => ?_, fun w hw x hx => ?_, fun x hx => .inr ⟨_, List.mem_singleton.mpr rfl, hx⟩, ?_, ?_⟩
    · rw [List.mem_singleton] at hw; subst hw; exact ⟨ok, by show b.size ≤ _; omega⟩
    · rw [List.mem_singleton] at hw; subst hw; exact hx
    · rw [wt_cons]; show 0 + (1 + 3 * b.size + 0) ≤ _; omega
    · rw [wt_cons]; show 0 + (1 + 3 * b.size + 0) ≤ _; omega
  obtain ⟨Bk, Fk, y4, y5, y6, y7, y8, y9, e9, hd⟩ := work β ((b.laid 0 b.size).map En.d) (.tuple ps) b.size (b.laid 0 b.size) hu 500 [(b, 0, b.size)] [] [] .no .no .no .no .no .no I (by rw [wt_cons]; show 1 + 3 * b.size + 0 < _; omega)
  refine ⟨Bk, Fk, ?_, hd⟩
  have ix4 : ∀ (x2 x3 : Sl) (β' : Bag), mBin dIx (mVar 1) (mC (.int 4)) ⟨i0 β.os.length (.tuple ps) x2 x3, β'⟩ = some (⟨i0 β.os.length (.tuple ps) x2 x3, β'⟩, .ok (.dat (.tuple []))) := fun x2 x3 β' => binD (d1 := .tuple ps) (d2 := .int 4) rfl rfl hp.four
  have ix5 : ∀ (x2 x3 : Sl) (β' : Bag), mBin dIx (mVar 1) (mC (.int 5)) ⟨i0 β.os.length (.tuple ps) x2 x3, β'⟩ = some (⟨i0 β.os.length (.tuple ps) x2 x3, β'⟩, .ok (.dat (.tuple b.ds))) := fun x2 x3 β' => binD (d1 := .tuple ps) (d2 := .int 5) rfl rfl hp.five
  have e0 : mIfS (mIs (mBin cNe (mBin dIx (mVar 1) (mC (.int 4))) (mTup []))) (mRaise0 "Nothing") mNx ⟨i0 β.os.length (.tuple ps) .no .no, { β with os := β.os ++ [.ins "Layout" []] }⟩ = some (⟨i0 β.os.length (.tuple ps) .no .no, { β with os := β.os ++ [.ins "Layout" []] }⟩, .ok .nx) := by
    rw [ifs_ok (isD (binD (f := cNe) (d2 := .tuple []) (d := .bool false) (ix4 .no .no _) rfl (by kernel_rfl)))]
    rfl
  have e1 : mFldSet "Layout" (mVar 0) "statements" (mComp [8, 10] (mSeq (mCall F_nodes_of [(mBin dIx (mVar 1) (mC (.int 5)))])) (.tup [(.nm 8), (.nm 10)]) mYes (mVar 8)) ⟨i0 β.os.length (.tuple ps) .no .no, { β with os := β.os ++ [.ins "Layout" []] }⟩ =
      some (⟨i0 β.os.length (.tuple ps) .no .no, { β with os := β.os ++ [.ins "Layout" [("statements", .dat (.list ((b.laid 0 b.size).map En.d)))]] }⟩, .ok .nx) := by
    have hc := comp_ok (b.nd 1) id fstD (vs := [8, 10]) (mi := mSeq (mCall F_nodes_of [(mBin dIx (mVar 1) (mC (.int 5)))])) (t := .tup [(.nm 8), (.nm 10)]) (me := mVar 8) (s := ⟨i0 β.os.length (.tuple ps) .no .no, { β with os := β.os ++ [.ins "Layout" []] }⟩) (s1 := ⟨i0 β.os.length (.tuple ps) .no .no, { β with os := β.os ++ [.ins "Layout" []] }⟩)
      (by rw [List.map_id]; exact (bind_ok (callF (as := [.dat (.tuple b.ds)]) (args_cons' (ix5 .no .no _) args_nil) (nodes_ok _ ok (by omega)))).trans rfl) rfl
      (fun o ho => by
        obtain ⟨d, j, rfl⟩ := nd_two b 1 o ho
        exact ⟨_, _, rfl, rfl, rfl⟩) (by rw [B.nd_len, sizeLine_eq]; omega) rfl
    rw [nd_fst b 1 0 b.size] at hc
    refine (set_fld (r := .fresh ((b.laid 0 b.size).map En.d)) (x := .dat (.list ((b.laid 0 b.size).map En.d))) (fs := []) hc rfl rfl (get0 _ _ _) (by simp)).trans ?_
    unfold S.putCell
    rw [set0]
    rfl
  have e2 : mFldSet "Layout" (mVar 0) "behind" (mCell mDictE) ⟨i0 β.os.length (.tuple ps) .no .no, { β with os := β.os ++ [.ins "Layout" [("statements", .dat (.list ((b.laid 0 b.size).map En.d)))]] }⟩ =
      some (⟨i0 β.os.length (.tuple ps) .no .no, { β with os := β.os ++ [.ins "Layout" [("statements", .dat (.list ((b.laid 0 b.size).map En.d))), ("behind", .ob (β.os.length + 1))], .dct []] }⟩, .ok .nx) := by
    have hv : mCell mDictE ⟨i0 β.os.length (.tuple ps) .no .no, { β with os := β.os ++ [.ins "Layout" [("statements", .dat (.list ((b.laid 0 b.size).map En.d)))]] }⟩ = some (⟨i0 β.os.length (.tuple ps) .no .no, { β with os := β.os ++ [.ins "Layout" [("statements", .dat (.list ((b.laid 0 b.size).map En.d)))], .dct []] }⟩, .ok (.ob (β.os.length + 1))) := by
      refine (bind_ok (show mDictE _ = some (_, .ok (.freshK [])) from rfl)).trans ?_
      show some (S.addCell _ (.dct []), Except.ok (Rv.ob (β.os ++ [Cell.ins "Layout" [("statements", .dat (.list ((b.laid 0 b.size).map En.d)))]]).length)) = _
      unfold S.addCell
      simp
    refine (set_fld (r := .ob (β.os.length + 1)) (x := .ob (β.os.length + 1)) (fs := [("statements", .dat (.list ((b.laid 0 b.size).map En.d)))]) hv rfl rfl (get0 _ _ _) (by simp)).trans ?_
    unfold S.putCell
    rw [set0]
    rfl
  have e3 : mFldSet "Layout" (mVar 0) "first" (mCell mDictE) ⟨i0 β.os.length (.tuple ps) .no .no, { β with os := β.os ++ [.ins "Layout" [("statements", .dat (.list ((b.laid 0 b.size).map En.d))), ("behind", .ob (β.os.length + 1))], .dct []] }⟩ =
      some (⟨i0 β.os.length (.tuple ps) .no .no, lb β ((b.laid 0 b.size).map En.d) [] []⟩, .ok .nx) := by
    have hv : mCell mDictE ⟨i0 β.os.length (.tuple ps) .no .no, { β with os := β.os ++ [.ins "Layout" [("statements", .dat (.list ((b.laid 0 b.size).map En.d))), ("behind", .ob (β.os.length + 1))], .dct []] }⟩ = some (⟨i0 β.os.length (.tuple ps) .no .no, { β with os := β.os ++ [.ins "Layout" [("statements", .dat (.list ((b.laid 0 b.size).map En.d))), ("behind", .ob (β.os.length + 1))], .dct [], .dct []] }⟩, .ok (.ob (β.os.length + 2))) := by
      refine (bind_ok (show mDictE _ = some (_, .ok (.freshK [])) from rfl)).trans ?_
      show some (S.addCell _ (.dct []), Except.ok (Rv.ob (β.os ++ [Cell.ins "Layout" [("statements", .dat (.list ((b.laid 0 b.size).map En.d))), ("behind", .ob (β.os.length + 1))], .dct []]).length)) = _
      unfold S.addCell
      simp
    refine (set_fld (r := .ob (β.os.length + 2)) (x := .ob (β.os.length + 2)) (fs := [("statements", .dat (.list ((b.laid 0 b.size).map En.d))), ("behind", .ob (β.os.length + 1))]) hv rfl rfl (get0 _ _ _) (by simp)).trans ?_
    unfold S.putCell
    rw [set0]
    rfl
  have e4 : mSet 2 (mUn dLenD (mFld "Layout" (mVar 0) "statements")) ⟨i0 β.os.length (.tuple ps) .no .no, lb β ((b.laid 0 b.size).map En.d) [] []⟩ = some (⟨i0 β.os.length (.tuple ps) (.dat (nt b.size)) .no, lb β ((b.laid 0 b.size).map En.d) [] []⟩, .ok .nx) := by
    refine set_ok (s' := ⟨i0 β.os.length (.tuple ps) .no .no, lb β ((b.laid 0 b.size).map En.d) [] []⟩) (unD (d1 := .list ((b.laid 0 b.size).map En.d)) (fld_s rfl) ?_)
    show some (Rs.dat (.int (((b.laid 0 b.size).map En.d).length : Int))) = _
    rw [List.length_map, B.laid_len]
  have e5 : mSet 3 (mLst [(mTup [(mBin dIx (mVar 1) (mC (.int 5))), (mC (.int 0)), (mVar 2)])]) ⟨i0 β.os.length (.tuple ps) (.dat (nt b.size)) .no, lb β ((b.laid 0 b.size).map En.d) [] []⟩ = some (⟨i0 β.os.length (.tuple ps) (.dat (nt b.size)) (.own [tup3 (b, 0, b.size)]), lb β ((b.laid 0 b.size).map En.d) [] []⟩, .ok .nx) := by
    refine setF_ok (s' := ⟨i0 β.os.length (.tuple ps) (.dat (nt b.size)) .no, lb β ((b.laid 0 b.size).map En.d) [] []⟩) (i := 3) (lst_ok (as := [.dat (tup3 (b, 0, b.size))]) (args_cons' (tup_ok (as := [.dat (.tuple b.ds), .dat (nt 0), .dat (nt b.size)]) (args_cons' (ix5 _ _ _) (args_cons' rfl (args_cons' rfl args_nil))) rfl) args_nil) rfl)
  have run : m_Layout_init ⟨i0 β.os.length (.tuple ps) .no .no, { β with os := β.os ++ [.ins "Layout" []] }⟩ = some (⟨ly β.os.length (.tuple ps) b.size [] y4 y5 y6 y7 y8 y9, lb β ((b.laid 0 b.size).map En.d) Bk Fk⟩, .ok .nx) := by
    unfold m_Layout_init
    rw [then_ok e0, then_ok e1, then_ok e2, then_ok e3, then_ok e4, then_ok e5]
    exact e9
  unfold F_Layout_init runDef
  rw [show (⟨begin 12 [.ob β.os.length, .dat (.tuple ps)], { β with os := β.os ++ [.ins "Layout" []] }⟩ : S) = ⟨i0 β.os.length (.tuple ps) .no .no, { β with os := β.os ++ [.ins "Layout" []] }⟩ from rfl, run]
end Pu
/-! S15 (k03): what comes next, by both ways. -/
namespace Pu
open PySem PySem.Spec PyProof.Rows L2
inductive EnF : En → Prop
  | leaf {w : Str} {as : List D} (h : Lf w as) (n : ∀ a ∈ as, atm a) (a l : Nat) : EnF ⟨.tuple (.str w :: as), a, [], l⟩
  | one {w : Str} {as : List D} (h : On w as) (n : ∀ a ∈ as, atm a) (b : D) (a f0 l : Nat) : EnF ⟨.tuple (.str w :: (as ++ [b])), a, [f0], l⟩
  | two {w : Str} {as : List D} (h : Tw w as) (n : ∀ a ∈ as, atm a) (b c : D) (a f0 f1 l : Nat) : EnF ⟨.tuple (.str w :: (as ++ [b, c])), a, [f0, f1], l⟩
theorem laid_form : ∀ (b : B) (n f e : Nat), Ok b n → ∀ x ∈ b.laid f e, EnF x
  | .nil, n, f, e, h, x, hx => nomatch hx
  | .leaf w as r, n, f, e, h, x, hx => by
    rw [B.laid] at hx
    (rcases List.mem_cons.mp hx with rfl | hx)
    · exact .leaf h.1 h.2.1 _ _
    · exact laid_form r n _ _ h.2.2 x hx
  | .one w as b r, n, f, e, h, x, hx => by
    rw [B.laid] at hx
    obtain ⟨h0, h1, h2, ⟨m, rfl, h3⟩, h4⟩ := h
    (rcases List.mem_cons.mp hx with rfl | hx)
    · exact .one h0 h1 _ _ _ _
    · (rcases List.mem_append.mp hx with hx | hx)
      · exact laid_form b _ _ _ h3 x hx
      · exact laid_form r _ _ _ h4 x hx
  | .two w as b c r, n, f, e, h, x, hx => by
    rw [B.laid] at hx
    obtain ⟨h0, h1, h2, h2', ⟨m, rfl, h3, h3'⟩, h4⟩ := h
    (rcases List.mem_cons.mp hx with rfl | hx)
    · exact .two h0 h1 _ _ _ _ _ _
    · (rcases List.mem_append.mp hx with hx | hx)
      · exact laid_form b _ _ _ h3 x hx
      · (rcases List.mem_append.mp hx with hx | hx)
        · exact laid_form c _ _ _ h3' x hx
        · exact laid_form r _ _ _ h4 x hx
/-- the numbers of a body laid out stay within bounds -/
theorem laid_few : ∀ (b : B) (f e t : Nat), f + b.size ≤ t → e ≤ t → ∀ x ∈ b.laid f e, x.later ≤ t ∧ ∀ y ∈ x.fs, y ≤ t
  | .nil, f, e, t, h, he, x, hx => nomatch hx
  | .leaf w as r, f, e, t, h, he, x, hx => by
    rw [B.laid] at hx
    rw [B.size] at h
    (rcases List.mem_cons.mp hx with rfl | hx)
    · refine ⟨?_, fun y hy => nomatch hy⟩
      show (if r.isNil then e else f + 1) ≤ t
      split <;> omega
    · exact laid_few r _ _ t (by omega) he x hx
  | .one w as b r, f, e, t, h, he, x, hx => by
    rw [B.laid] at hx
    rw [B.size] at h
    (rcases List.mem_cons.mp hx with rfl | hx)
    · refine ⟨?_, fun y hy => ?_⟩
      · show (if r.isNil then e else f + 1 + b.size) ≤ t
        split <;> omega
      · have hy : y = if b.isNil then f else f + 1 := List.mem_singleton.mp hy
        rw [hy]; split <;> omega
    · (rcases List.mem_append.mp hx with hx | hx)
      · exact laid_few b _ _ t (by omega) (by omega) x hx
      · exact laid_few r _ _ t (by omega) he x hx
  | .two w as b c r, f, e, t, h, he, x, hx => by
    rw [B.laid] at hx
    rw [B.size] at h
    have hl : (if r.isNil then e else f + 1 + (b.size + c.size)) ≤ t := by split <;> omega
    (rcases List.mem_cons.mp hx with rfl | hx)
    · refine ⟨hl, fun y hy => ?_⟩
      have hy : y = (if b.isNil then (if r.isNil then e else f + 1 + (b.size + c.size)) else f + 1) ∨ y = (if c.isNil then (if r.isNil then e else f + 1 + (b.size + c.size)) else f + 1 + b.size) := by
        have hy : y ∈ [_, _] := hy
        simp only [List.mem_cons, List.not_mem_nil, or_false] at hy
        exact hy
      rcases hy with hy | hy
      · rw [hy]; cases b.isNil <;> simp only [if_true, if_false, Bool.false_eq_true] <;> omega
      · rw [hy]; cases c.isNil <;> simp only [if_true, if_false, Bool.false_eq_true] <;> omega
    · (rcases List.mem_append.mp hx with hx | hx)
      · exact laid_few b _ _ t (by omega) hl x hx
      · (rcases List.mem_append.mp hx with hx | hx)
        · exact laid_few c _ _ t (by omega) hl x hx
        · exact laid_few r _ _ t (by omega) he x hx
def m_nt : M Fl := (mThen (mSet 6 (mBin dIx (mVar 3) (mC (.int 0)))) (mThen (mIfS (mIs (mBin cEq (mVar 6) (mC (.str "if")))) (mRet (mCall F_asked [(mVar 3), (mBin dIx (mVar 5) (mC (.int 0))), (mBin dIx (mVar 5) (mC (.int 1)))])) mNx) (mThen (mIfS (mIs (mBin cEq (mVar 6) (mC (.str "while")))) (mThen (mSet 7 (mBin cEq (mBin dIx (mVar 3) (mC (.int 1))) (mC (.str "same")))) (mRet (mCall F_asked [(mVar 3), (mIf (mIs (mVar 7)) (mBin dIx (mVar 5) (mC (.int 0))) (mVar 4)), (mIf (mIs (mVar 7)) (mVar 4) (mBin dIx (mVar 5) (mC (.int 0))))]))) mNx) (mThen (mIfS (mIs (mBin cEq (mVar 6) (mC (.str "choose")))) (mRet (mTup [(mTup [(mC (.int 0)), (mTup []), (mBin dIx (mVar 5) (mC (.int 0)))]), (mTup [(mC (.int 1)), (mTup []), (mBin dIx (mVar 5) (mC (.int 1)))])])) mNx) (mThen (mIfS (mIs (mBin cEq (mVar 6) (mC (.str "loop")))) (mRet (mTup [(mTup [(mC (.int 0)), (mTup []), (mVar 4)]), (mTup [(mC (.int 1)), (mTup []), (mBin dIx (mVar 5) (mC (.int 0)))])])) mNx) (mRet (mTup [(mTup [(mC .none), (mIf (mIs (mBin cIn (mVar 6) (mTup [(mC (.str "put")), (mC (.str "make")), (mC (.str "any"))]))) (mTup [(mVar 3)]) (mTup [])), (mVar 4)])])))))))
def m_lt : M Fl := (mThen (mSet 5 (mBin dIx (mVar 2) (mC (.int 0)))) (mThen (mIfS (mIs (mBin cIn (mVar 5) (mTup [(mC (.str "put")), (mC (.str "make")), (mC (.str "any"))]))) (mRet (mLst [(mTup [(mC .none), (mTup [(mVar 2)]), (mVar 4)])])) mNx) (mThen (mIfS (mIs (mBin cIn (mVar 5) (mTup [(mC (.str "claim")), (mC (.str "never"))]))) (mRet (mLst [(mTup [(mC .none), (mTup []), (mVar 4)])])) mNx) (mThen (mIfS (mIs (mBin cEq (mVar 5) (mC (.str "if")))) (mRet (mLst [(mTup [(mC (.str "same")), (mTup [(mBin dAdd (mTup [(mC (.str "same"))]) (mSl (mVar 2) (some (mC (.int 1))) (some (mC (.int 3)))))]), (mBin dIx (mVar 3) (mC (.int 0)))]), (mTup [(mC (.str "unlike")), (mTup [(mBin dAdd (mTup [(mC (.str "unlike"))]) (mSl (mVar 2) (some (mC (.int 1))) (some (mC (.int 3)))))]), (mBin dIx (mVar 3) (mC (.int 1)))])])) mNx) (mThen (mIfS (mIs (mBin cEq (mVar 5) (mC (.str "while")))) (mThen (mSet 6 (mDict1 (mBin dIx (mVar 2) (mC (.int 1))) (mBin dIx (mVar 3) (mC (.int 0))))) (mRet (mComp [7] (mSeq (mTup [(mC (.str "same")), (mC (.str "unlike"))])) (.nm 7) mYes (mTup [(mVar 7), (mTup [(mBin dAdd (mTup [(mVar 7)]) (mSl (mVar 2) (some (mC (.int 2))) (some (mC (.int 4)))))]), (mGet2 (mVar 6) (mVar 7) (mVar 4))])))) mNx) (mRet (mLst [(mTup [(mC (.int 0)), (mTup []), (mIf (mIs (mBin cEq (mVar 5) (mC (.str "choose")))) (mBin dIx (mVar 3) (mC (.int 0))) (mVar 4))]), (mTup [(mC (.int 1)), (mTup []), (mIf (mIs (mBin cEq (mVar 5) (mC (.str "choose")))) (mBin dIx (mVar 3) (mC (.int 1))) (mBin dIx (mVar 3) (mC (.int 0))))])])))))))
def NextT (e : En) (ss : List D) : Prop := ∀ (pg : D) (place n : Nat) (β : Bag), (m_nt ⟨[.dat pg, .dat (nt place), .ob n, .dat e.d, .dat (nt e.later), .dat (.list (ntl e.fs)), .no, .no], β⟩).map (fun q => (q.1.β, q.2)) = some (β, .ok (.rt (.dat (.tuple ss))))
def LawT (e : En) (ss : List D) : Prop := ∀ (lad : D) (place : Nat) (β : Bag), (m_lt ⟨[.dat lad, .dat (nt place), .dat e.d, .dat (.list (ntl e.fs)), .dat (nt e.later), .no, .no, .no], β⟩).map (fun q => (q.1.β, q.2)) = some (β, .ok (.rt (.fresh ss)))
theorem nice_non : Nice 405 4 .none := ⟨by simp [PyData.plain], by simp [PyData.showable], by simp [PyData.canLay0], by simp [tinyD], by simp [PyData.depth], by decide +kernel⟩
theorem few_nt {i : Nat} (h : i ≤ 64) : few (i : Int) := ⟨by omega, by omega⟩
theorem nice_nt {i : Nat} (h : i ≤ 64) : Nice 405 4 (nt i) := (nice_int (few_nt h)).mono (by omega) (by omega)
theorem nice_step {x m : D} {l : Nat} (hx : Nice 405 4 x) (hm : Nice 405 4 m) (hl : l ≤ 64) : Nice 1218 5 (.tuple [x, m, nt l]) := by
  refine (nice_tuple (n := 3) (c := 405) (k := 4) (fun y hy => ?_) (by simp)).mono (by omega) (by omega)
  simp only [List.mem_cons, List.not_mem_nil, or_false] at hy
  rcases hy with rfl | rfl | rfl
  · exact hx
  · exact hm
  · exact nice_nt hl
theorem nice_row {xs : List D} (h : ∀ a ∈ xs, atm a) (hl : xs.length ≤ 4) : Nice 405 4 (.tuple [.tuple xs]) := by
  refine (nice_tuple (n := 1) (c := 404) (k := 3) (fun y hy => ?_) (by simp)).mono (by omega) (by omega)
  rw [List.mem_singleton] at hy
  subst hy
  exact (nice_tuple (n := 4) (c := 100) (k := 2) h hl).mono (by omega) (by omega)
theorem nice_emp : Nice 405 4 (.tuple []) := (nice_tuple (n := 0) (c := 0) (k := 0) (fun y hy => by cases hy) (by simp)).mono (by omega) (by omega)
theorem nice_steps {xs : List D} (h : ∀ a ∈ xs, Nice 1218 5 a) (hl : xs.length ≤ 2) : Nice 2438 6 (.tuple xs) := (nice_tuple (n := 2) h hl).mono (by omega) (by omega)
theorem atm_w {x : Str} (h : decide ((PyData.str x).showable = true ∧ (PyData.str x).canLay0 = true ∧ tinyD (.str x) = true ∧ (PyData.str x).weight ≤ 40) = true) : atm (.str x) := atm_of (nice_str h)
theorem nice_atm {d : D} (h : atm d) : Nice 405 4 d := h.mono (by omega) (by omega)
theorem two_of {P : D → Prop} {x y : D} (hx : P x) (hy : P y) : ∀ a ∈ [x, y], P a := by
  intro a ha
  simp only [List.mem_cons, List.not_mem_nil, or_false] at ha
  rcases ha with rfl | rfl
  · exact hx
  · exact hy
theorem one_of {P : D → Prop} {x : D} (hx : P x) : ∀ a ∈ [x], P a := by
  intro a ha
  rw [List.mem_singleton] at ha
  subst ha
  exact hx
theorem cons_of {P : D → Prop} {x : D} {xs : List D} (hx : P x) (h : ∀ a ∈ xs, P a) : ∀ a ∈ x :: xs, P a := by
  intro a ha
  (rcases List.mem_cons.mp ha with rfl | ha)
  · exact hx
  · exact h a ha
theorem entry {e : En} (he : EnF e) (h1 : e.later ≤ 64) (h2 : ∀ y ∈ e.fs, y ≤ 64) : ∃ ss, NextT e ss ∧ LawT e ss ∧ Nice 2438 6 (.tuple ss) := by
  have same : atm (.str "same") := atm_w (by decide +kernel)
  have unl : atm (.str "unlike") := atm_w (by decide +kernel)
  have n0 : Nice 405 4 (.int 0) := nice_nt (i := 0) (by omega)
  have n1 : Nice 405 4 (.int 1) := nice_nt (i := 1) (by omega)
  cases he with
  | leaf h n a l =>
    cases h with
    | put x y => exact ⟨[.tuple [.none, .tuple [.tuple [.str "put", x, y]], nt l]], fun _ _ _ _ => by kernel_rfl, fun _ _ _ => by kernel_rfl, nice_steps (one_of (nice_step nice_non (nice_row (cons_of (atm_w (by decide +kernel)) n) (by simp)) h1)) (by simp)⟩
    | any x => exact ⟨[.tuple [.none, .tuple [.tuple [.str "any", x]], nt l]], fun _ _ _ _ => by kernel_rfl, fun _ _ _ => by kernel_rfl, nice_steps (one_of (nice_step nice_non (nice_row (cons_of (atm_w (by decide +kernel)) n) (by simp)) h1)) (by simp)⟩
    | make x f t => exact ⟨[.tuple [.none, .tuple [.tuple [.str "make", x, f, t]], nt l]], fun _ _ _ _ => by kernel_rfl, fun _ _ _ => by kernel_rfl, nice_steps (one_of (nice_step nice_non (nice_row (cons_of (atm_w (by decide +kernel)) n) (by simp)) h1)) (by simp)⟩
    | never => exact ⟨[.tuple [.none, .tuple [], nt l]], fun _ _ _ _ => by kernel_rfl, fun _ _ _ => by kernel_rfl, nice_steps (one_of (nice_step nice_non nice_emp h1)) (by simp)⟩
    | claim w y z => exact ⟨[.tuple [.none, .tuple [], nt l]], fun _ _ _ _ => by kernel_rfl, fun _ _ _ => by kernel_rfl, nice_steps (one_of (nice_step nice_non nice_emp h1)) (by simp)⟩
  | one h n b a f0 l =>
    have hf0 : f0 ≤ 64 := h2 f0 (by simp)
    cases h with
    | loop => exact ⟨[.tuple [.int 0, .tuple [], nt l], .tuple [.int 1, .tuple [], nt f0]], fun _ _ _ _ => by kernel_rfl, fun _ _ _ => by kernel_rfl, nice_steps (two_of (nice_step n0 nice_emp h1) (nice_step n1 nice_emp hf0)) (by simp)⟩
    | whl w y z hh =>
      have ay : atm y := n y (by simp)
      have az : atm z := n z (by simp)
      rcases hh with rfl | rfl
      · exact ⟨[.tuple [.str "same", .tuple [.tuple [.str "same", y, z]], nt f0], .tuple [.str "unlike", .tuple [.tuple [.str "unlike", y, z]], nt l]], fun _ _ _ _ => by kernel_rfl, fun _ _ _ => by kernel_rfl,
          nice_steps (two_of (nice_step (nice_atm same) (nice_row (cons_of same (two_of ay az)) (by simp)) hf0) (nice_step (nice_atm unl) (nice_row (cons_of unl (two_of ay az)) (by simp)) h1)) (by simp)⟩
      · exact ⟨[.tuple [.str "same", .tuple [.tuple [.str "same", y, z]], nt l], .tuple [.str "unlike", .tuple [.tuple [.str "unlike", y, z]], nt f0]], fun _ _ _ _ => by kernel_rfl, fun _ _ _ => by kernel_rfl,
          nice_steps (two_of (nice_step (nice_atm same) (nice_row (cons_of same (two_of ay az)) (by simp)) h1) (nice_step (nice_atm unl) (nice_row (cons_of unl (two_of ay az)) (by simp)) hf0)) (by simp)⟩
  | two h n b c a f0 f1 l =>
    have hf0 : f0 ≤ 64 := h2 f0 (by simp)
    have hf1 : f1 ≤ 64 := h2 f1 (by simp)
    cases h with
    | choose => exact ⟨[.tuple [.int 0, .tuple [], nt f0], .tuple [.int 1, .tuple [], nt f1]], fun _ _ _ _ => by kernel_rfl, fun _ _ _ => by kernel_rfl, nice_steps (two_of (nice_step n0 nice_emp hf0) (nice_step n1 nice_emp hf1)) (by simp)⟩
    | ite y z =>
      have ay : atm y := n y (by simp)
      have az : atm z := n z (by simp)
      exact ⟨[.tuple [.str "same", .tuple [.tuple [.str "same", y, z]], nt f0], .tuple [.str "unlike", .tuple [.tuple [.str "unlike", y, z]], nt f1]], fun _ _ _ _ => by kernel_rfl, fun _ _ _ => by kernel_rfl,
          nice_steps (two_of (nice_step (nice_atm same) (nice_row (cons_of same (two_of ay az)) (by simp)) hf0) (nice_step (nice_atm unl) (nice_row (cons_of unl (two_of ay az)) (by simp)) hf1)) (by simp)⟩
end Pu
/-! S16 (k03): the program's answers. -/
namespace Pu
open PySem PySem.Spec PyProof.Rows L2
def nothing : Exn := ⟨"Nothing", []⟩
abbrev lstO (b : B) : List En := b.laid 0 b.size
abbrev stsO (b : B) : List D := (lstO b).map En.d
theorem fn_err {n : Nat} {m : M Fl} {β : Bag} {as : List Ar} {s : S} {x : Exn} (s0 : S) (e : (⟨begin n as, β⟩ : S) = s0) (h : m s0 = some (s, .error x)) : runDef n m β as = some (s.β, .error x) := by
  unfold runDef; rw [e, h]
theorem fn_map {n : Nat} {m : M Fl} {β β' : Bag} {as : List Ar} {d : D} (s0 : S) (e : (⟨begin n as, β⟩ : S) = s0) (h : (m s0).map (fun q => (q.1.β, q.2)) = some (β', .ok (.rt (.dat d)))) : runDef n m β as = some (β', .ok (.dat d)) := by
  obtain ⟨⟨s, r⟩, h1, h2⟩ := Option.map_eq_some_iff.mp h
  cases h2
  exact fn_at s0 e h1
theorem fn_mapF {n : Nat} {m : M Fl} {β β' : Bag} {as : List Ar} {ds : List D} (s0 : S) (e : (⟨begin n as, β⟩ : S) = s0) (h : (m s0).map (fun q => (q.1.β, q.2)) = some (β', .ok (.rt (.fresh ds)))) : runDef n m β as = some (β', .ok (.fresh ds)) := by
  obtain ⟨⟨s, r⟩, h1, h2⟩ := Option.map_eq_some_iff.mp h
  cases h2
  exact fnF_at s0 e h1 rfl
theorem new_ok {ps : List D} {b : B} (hp : PrOk ps b) (ok : Ok b 4) (sb : b.size ≤ 100) {ms : List (M Rv)} {ρ : List Sl} {β : Bag} (h : mArgs ms ⟨ρ, β⟩ = some (⟨ρ, β⟩, .ok [.dat (.tuple ps)])) :
    ∃ Bk Fk, mNew "Layout" F_Layout_init ms ⟨ρ, β⟩ = some (⟨ρ, lb β (stsO b) Bk Fk⟩, .ok (.ob β.os.length)) ∧ ∀ x ∈ lstO b, Done Bk Fk x := by
  obtain ⟨Bk, Fk, e, hd⟩ := init_ok β ps b hp ok sb
  refine ⟨Bk, Fk, (bind_ok h).trans ?_, hd⟩
  simp only [e]
theorem new_err {ms : List (M Rv)} {ρ : List Sl} {β β' : Bag} {x : Exn} {pg : D} (h : mArgs ms ⟨ρ, β⟩ = some (⟨ρ, β⟩, .ok [.dat pg])) (e : F_Layout_init { β with os := β.os ++ [.ins "Layout" []] } [.ob β.os.length, .dat pg] = some (β', .error x)) : mNew "Layout" F_Layout_init ms ⟨ρ, β⟩ = some (⟨ρ, β'⟩, .error x) := by
  refine (bind_ok h).trans ?_
  simp only [e]
theorem bind_err {α γ : Type} {m : M α} {f : α → M γ} {s s' : S} {x : Exn} (h : m s = some (s', .error x)) : M.bind m f s = some (s', .error x) := by unfold M.bind; rw [h]
section
variable {ps : List D} {b : B} (hp : PrOk ps b) (ok : Ok b 4) (sb : b.size ≤ 64)
include hp ok sb
theorem sts_len : mUn dLenD (mC (.list (stsO b))) = mUn dLenD (mC (.list (stsO b))) := rfl
theorem len_sts {m : M Rv} {s s' : S} (h : m s = some (s', .ok (.dat (.list (stsO b))))) : mUn dLenD m s = some (s', .ok (.dat (nt b.size))) := by
  refine unD h ?_
  show some (Rs.dat (.int ((stsO b).length : Int))) = _
  rw [List.length_map, B.laid_len]
theorem end_ok (β : Bag) : ∃ β', F_end_place β [.dat (.tuple ps)] = some (β', .ok (.dat (nt b.size))) ∧ β'.cs = β.cs := by
  obtain ⟨Bk, Fk, e, _⟩ := new_ok hp ok (by omega) (ms := [(mVar 0)]) (ρ := [.dat (.tuple ps)]) (β := β) rfl
  exact ⟨lb β (stsO b) Bk Fk, fn_at (s := ⟨[.dat (.tuple ps)], lb β (stsO b) Bk Fk⟩) ⟨[.dat (.tuple ps)], β⟩ rfl (ret_ok (len_sts hp ok sb (fld_ok (x := .dat (.list (stsO b))) e (show (lay β.os (stsO b) Bk Fk)[β.os.length]? = _ from get0 _ _ _) rfl))), rfl⟩
theorem first_ok (β : Bag) : ∃ β', F_first_place β [.dat (.tuple ps)] = some (β', .ok (.dat (.int 0))) ∧ β'.cs = β.cs := by
  obtain ⟨Bk, Fk, e, _⟩ := new_ok hp ok (by omega) (ms := [(mVar 0)]) (ρ := [.dat (.tuple ps)]) (β := β) rfl
  exact ⟨lb β (stsO b) Bk Fk, fn_at (s := ⟨[.dat (.tuple ps)], lb β (stsO b) Bk Fk⟩) ⟨[.dat (.tuple ps)], β⟩ rfl ((then_ok ((bind_ok e).trans rfl)).trans rfl), rfl⟩
theorem places_all (β : Bag) : ∃ β', F_places β [.dat (.tuple ps)] = some (β', .ok (.dat (.tuple (rangeD 0 (b.size + 1))))) ∧ β'.cs = β.cs := by
  obtain ⟨β', e, hc⟩ := end_ok hp ok sb β
  refine ⟨β', fn_at (s := ⟨[.dat (.tuple ps)], β'⟩) ⟨[.dat (.tuple ps)], β⟩ rfl (ret_ok (unD (d1 := .int ((b.size : Int) + 1)) (binD (d1 := nt b.size) (d2 := .int 1) (callD (as := [.dat (.tuple ps)]) rfl e) rfl rfl) ?_)), hc⟩
  have hj : -(2 ^ 62) ≤ (b.size : Int) + 1 ∧ (b.size : Int) + 1 ≤ 2 ^ 24 := by constructor <;> omega
  unfold dRgT
  simp only
  rw [if_pos hj, show ((b.size : Int) + 1).toNat = b.size + 1 by omega]
theorem is_ok (β : Bag) (t : D) (v : Bool) (hv : ∀ β, F_is_index β [.dat t] = some (β, .ok (.dat (.bool v)))) (w : Bool) (hw : v = true → cLe t (nt b.size) = some (.dat (.bool w))) : ∃ β', F_is_place β [.dat (.tuple ps), .dat t] = some (β', .ok (.dat (.bool (v && w)))) ∧ β'.cs = β.cs := by
  obtain ⟨β', e, hc⟩ := end_ok hp ok sb β
  refine ⟨β', fn_at (s := ⟨[.dat (.tuple ps), .dat t, .dat (nt b.size)], β'⟩) ⟨[.dat (.tuple ps), .dat t, .no], β⟩ rfl ?_, hc⟩
  refine (then_ok (set_ok (s' := ⟨[.dat (.tuple ps), .dat t, .no], β'⟩) (callD (as := [.dat (.tuple ps)]) rfl e))).trans (ret_ok ?_)
  exact andV_ok (callD (ρ := [.dat (.tuple ps), .dat t, .dat (nt b.size)]) (as := [.dat t]) rfl (hv β')) fun h => binD (d1 := t) (d2 := nt b.size) rfl rfl (hw h)
abbrev nx (ps : List D) (t : D) (x2 x3 x4 x5 : Sl) : List Sl := [.dat (.tuple ps), .dat t, x2, x3, x4, x5, .no, .no]
theorem next_bad (β : Bag) (t : D) (hv : ∀ β, F_is_index β [.dat t] = some (β, .ok (.dat (.bool false)))) : ∃ β', F_next_steps β [.dat (.tuple ps), .dat t] = some (β', .error nothing) ∧ β'.cs = β.cs := by
  obtain ⟨Bk, Fk, e, _⟩ := new_ok hp ok (by omega) (ms := [(mVar 0)]) (ρ := nx ps t .no .no .no .no) (β := β) rfl
  refine ⟨lb β (stsO b) Bk Fk, fn_err (s := ⟨nx ps t (.ob β.os.length) .no .no .no, lb β (stsO b) Bk Fk⟩) ⟨nx ps t .no .no .no .no, β⟩ rfl ?_, rfl⟩
  refine (then_ok (show mSet 2 _ _ = some (⟨nx ps t (.ob β.os.length) .no .no .no, lb β (stsO b) Bk Fk⟩, .ok .nx) from (bind_ok e).trans rfl)).trans (then_err ?_)
  rw [ifs_ok (or_t (not_ok (b := false) (isD (callD (ρ := nx ps t (.ob β.os.length) .no .no .no) (as := [.dat t]) rfl (hv _)))))]
  rfl
theorem next_pre (β : Bag) (i : Int) (h0 : 0 ≤ i) : ∃ Bk Fk, (∀ x ∈ lstO b, Done Bk Fk x) ∧ ∀ n : M Fl, mThen (mSet 2 (mNew "Layout" F_Layout_init [(mVar 0)])) (mThen (mIfS (mOrT (mNotT (mIs (mCall F_is_index [(mVar 1)]))) (mIs (mBin cGt (mVar 1) (mUn dLenD (mFld "Layout" (mVar 2) "statements"))))) (mRaise0 "Nothing") mNx) n) ⟨nx ps (.int i) .no .no .no .no, β⟩ =
    if (b.size : Int) < i then some (⟨nx ps (.int i) (.ob β.os.length) .no .no .no, lb β (stsO b) Bk Fk⟩, .error nothing) else n ⟨nx ps (.int i) (.ob β.os.length) .no .no .no, lb β (stsO b) Bk Fk⟩ := by
  obtain ⟨Bk, Fk, e, hd⟩ := new_ok hp ok (by omega) (ms := [(mVar 0)]) (ρ := nx ps (.int i) .no .no .no .no) (β := β) rfl
  refine ⟨Bk, Fk, hd, fun n => ?_⟩
  refine (then_ok (show mSet 2 _ _ = some (⟨nx ps (.int i) (.ob β.os.length) .no .no .no, lb β (stsO b) Bk Fk⟩, .ok .nx) from (bind_ok e).trans rfl)).trans ?_
  have hi : F_is_index (lb β (stsO b) Bk Fk) [.dat (.int i)] = some (lb β (stsO b) Bk Fk, .ok (.dat (.bool true))) := by
    rw [idx_int, decide_eq_true h0]
  have hn : mUn dLenD (mFld "Layout" (mVar 2) "statements") ⟨nx ps (.int i) (.ob β.os.length) .no .no .no, lb β (stsO b) Bk Fk⟩ = some (⟨nx ps (.int i) (.ob β.os.length) .no .no .no, lb β (stsO b) Bk Fk⟩, .ok (.dat (nt b.size))) := len_sts hp ok sb (fld_s rfl)
  have ht : mOrT (mNotT (mIs (mCall F_is_index [(mVar 1)]))) (mIs (mBin cGt (mVar 1) (mUn dLenD (mFld "Layout" (mVar 2) "statements")))) ⟨nx ps (.int i) (.ob β.os.length) .no .no .no, lb β (stsO b) Bk Fk⟩ = some (⟨nx ps (.int i) (.ob β.os.length) .no .no .no, lb β (stsO b) Bk Fk⟩, .ok (decide ((b.size : Int) < i))) := by
    rw [or_f (not_ok (b := true) (isD (callD (ρ := nx ps (.int i) (.ob β.os.length) .no .no .no) (as := [.dat (.int i)]) rfl hi)))]
    exact isD (binD (d1 := .int i) (d2 := nt b.size) rfl hn rfl)
  by_cases q : (b.size : Int) < i
  · rw [if_pos q]
    refine then_err ?_
    rw [ifs_ok ht, decide_eq_true q]
    rfl
  · rw [if_neg q]
    refine then_ok ?_
    rw [ifs_ok ht, decide_eq_false q]
    rfl
theorem next_big (β : Bag) (i : Int) (hi : (b.size : Int) < i) : ∃ β', F_next_steps β [.dat (.tuple ps), .dat (.int i)] = some (β', .error nothing) ∧ β'.cs = β.cs := by
  obtain ⟨Bk, Fk, _, h⟩ := next_pre hp ok sb β i (by omega)
  refine ⟨lb β (stsO b) Bk Fk, fn_err (s := ⟨nx ps (.int i) (.ob β.os.length) .no .no .no, lb β (stsO b) Bk Fk⟩) ⟨nx ps (.int i) .no .no .no .no, β⟩ rfl ?_, rfl⟩
  have := h
  unfold m_next_steps
  rw [h, if_pos hi]
theorem eq_size {ρ : List Sl} {β : Bag} {Bk Fk : List (D × D)} {i : Nat} (hv : mVar 1 ⟨ρ, lb β (stsO b) Bk Fk⟩ = some (⟨ρ, lb β (stsO b) Bk Fk⟩, .ok (.dat (nt i)))) (h2 : mVar 2 ⟨ρ, lb β (stsO b) Bk Fk⟩ = some (⟨ρ, lb β (stsO b) Bk Fk⟩, .ok (.ob β.os.length))) :
    mIs (mBin cEq (mVar 1) (mUn dLenD (mFld "Layout" (mVar 2) "statements"))) ⟨ρ, lb β (stsO b) Bk Fk⟩ = some (⟨ρ, lb β (stsO b) Bk Fk⟩, .ok (decide ((i : Int) = (b.size : Int)))) :=
  isD (binD (d1 := nt i) (d2 := nt b.size) hv (len_sts hp ok sb (fld_s h2)) rfl)
theorem next_end (β : Bag) : ∃ β', F_next_steps β [.dat (.tuple ps), .dat (nt b.size)] = some (β', .ok (.dat (.tuple []))) ∧ β'.cs = β.cs := by
  obtain ⟨Bk, Fk, _, h⟩ := next_pre hp ok sb β (b.size : Int) (by omega)
  refine ⟨lb β (stsO b) Bk Fk, fn_at (s := ⟨nx ps (nt b.size) (.ob β.os.length) .no .no .no, lb β (stsO b) Bk Fk⟩) ⟨nx ps (nt b.size) .no .no .no .no, β⟩ rfl ?_, rfl⟩
  unfold m_next_steps
  rw [h, if_neg (by omega)]
  refine then_rt ?_
  rw [ifs_ok (eq_size hp ok sb (i := b.size) rfl rfl), decide_eq_true rfl]
  rfl
theorem next_at (β : Bag) (x : En) (hx : x ∈ lstO b) (ss : List D) (hn : NextT x ss) : ∃ β', F_next_steps β [.dat (.tuple ps), .dat (nt x.at_)] = some (β', .ok (.dat (.tuple ss))) ∧ β'.cs = β.cs := by
  obtain ⟨Bk, Fk, hd, h⟩ := next_pre hp ok sb β (x.at_ : Int) (by omega)
  obtain ⟨d1, d2⟩ := hd x hx
  have ha : x.at_ < b.size ∧ (stsO b)[x.at_]? = some x.d := by
    obtain ⟨j, hj, ej⟩ := List.mem_iff_getElem.mp hx
    have e := ats b 0 b.size
    have hl : (lstO b).length = b.size := B.laid_len _ _ _
    have z : ((lstO b).map En.at_)[j]? = (List.range' 0 b.size)[j]? := by rw [e]
    rw [List.getElem?_map, List.getElem?_eq_getElem hj, ej] at z
    rw [List.getElem?_range' (by omega)] at z
    have z' := Option.some.inj z
    have hxj : x.at_ = j := by omega
    refine ⟨by omega, ?_⟩
    rw [hxj, List.getElem?_map, List.getElem?_eq_getElem hj, ej]
    rfl
  obtain ⟨ha1, ha2⟩ := ha
  refine ⟨lb β (stsO b) Bk Fk, fn_map ⟨nx ps (nt x.at_) .no .no .no .no, β⟩ rfl ?_, rfl⟩
  rw [← hn (.tuple ps) x.at_ β.os.length (lb β (stsO b) Bk Fk)]
  refine congrArg _ ?_
  unfold m_next_steps
  rw [h, if_neg (by omega)]
  refine (then_ok (s' := ⟨nx ps (nt x.at_) (.ob β.os.length) .no .no .no, lb β (stsO b) Bk Fk⟩) ?_).trans ((then_ok (s' := ⟨nx ps (nt x.at_) (.ob β.os.length) (.dat x.d) (.dat (nt x.later)) (.dat (.list (ntl x.fs))), lb β (stsO b) Bk Fk⟩) ?_).trans rfl)
  · rw [ifs_ok (eq_size hp ok sb (i := x.at_) rfl rfl), decide_eq_false (by omega)]
    rfl
  · have a1 : mBin dIx (mFld "Layout" (mVar 2) "statements") (mVar 1) ⟨nx ps (nt x.at_) (.ob β.os.length) .no .no .no, lb β (stsO b) Bk Fk⟩ = some (⟨nx ps (nt x.at_) (.ob β.os.length) .no .no .no, lb β (stsO b) Bk Fk⟩, .ok (.dat x.d)) := by
      refine binD (d1 := .list (stsO b)) (d2 := nt x.at_) (fld_s rfl) rfl ?_
      show (ixD (stsO b) (x.at_ : Int)).map Rs.dat = _
      unfold ixD
      rw [ixN_in (by omega) (by rw [List.length_map, B.laid_len]; omega), show ((x.at_ : Nat) : Int).toNat = x.at_ by omega, Option.bind_some, ha2]
      rfl
    exact (bind_ok (args_cons' a1 (args_cons' (ix_b (k := x.at_) rfl rfl d1) (args_cons' (ix_f (k := x.at_) rfl rfl d2) args_nil)))).trans rfl
end
end Pu
/-! S17 (k03): what is heard. -/
namespace Pu
open PySem PySem.Spec PyProof.Rows L2
def noD : D := .str "nothing"
section
variable {pg t d : D} {β β' : Bag}
abbrev hf3 (w : Int) (pg t : D) : List Sl := [.dat (.int w), .dat pg, .dat t]
def m_hb : M Fl := (mThen (mIfS (mIs (mBin cEq (mVar 0) (mC (.int 0)))) (mRet (mCall F_next_steps [(mVar 1), (mVar 2)])) mNx) (mThen (mIfS (mIs (mBin cEq (mVar 0) (mC (.int 1)))) (mRet (mCall F_is_place [(mVar 1), (mVar 2)])) mNx) (mRet (mIf (mIs (mBin cEq (mVar 0) (mC (.int 2)))) (mCall F_first_place [(mVar 1)]) (mIf (mIs (mBin cEq (mVar 0) (mC (.int 3)))) (mCall F_end_place [(mVar 1)]) (mCall F_places [(mVar 1)]))))))
theorem hd_ok {w : Int} (h : m_hb ⟨hf3 w pg t, β⟩ = some (⟨hf3 w pg t, β'⟩, .ok (.rt (.dat d)))) : F_law_heard β [.dat (.int w), .dat pg, .dat t] = some (β', .ok (.dat d)) := by
  refine fn_at (s := ⟨hf3 w pg t, β'⟩) ⟨hf3 w pg t, β⟩ rfl ?_
  show (match m_hb ⟨hf3 w pg t, β⟩ with
    | some (s', .error x) => if x.cls = "Nothing" then (match (mRet (mC (.str "nothing"))) s' with
      | some (s2, .ok fl) => some (s2, Except.ok fl)
      | _ => none) else none
    | r => r) = _
  rw [h]
theorem hd_err {w : Int} (h : m_hb ⟨hf3 w pg t, β⟩ = some (⟨hf3 w pg t, β'⟩, .error nothing)) : F_law_heard β [.dat (.int w), .dat pg, .dat t] = some (β', .ok (.dat noD)) := by
  refine fn_at (s := ⟨hf3 w pg t, β'⟩) ⟨hf3 w pg t, β⟩ rfl ?_
  show (match m_hb ⟨hf3 w pg t, β⟩ with
    | some (s', .error x) => if x.cls = "Nothing" then (match (mRet (mC (.str "nothing"))) s' with
      | some (s2, .ok fl) => some (s2, Except.ok fl)
      | _ => none) else none
    | r => r) = _
  rw [h]
  rfl
theorem h0d (h : F_next_steps β [.dat pg, .dat t] = some (β', .ok (.dat d))) : F_law_heard β [.dat (.int 0), .dat pg, .dat t] = some (β', .ok (.dat d)) :=
  hd_ok (then_rt ((ifs_ok (b := true) (show mIs (mBin cEq (mVar 0) (mC (.int 0))) ⟨hf3 0 pg t, β⟩ = some (⟨hf3 0 pg t, β⟩, .ok true) from rfl)).trans (ret_ok (callD (as := [.dat pg, .dat t]) rfl h))))
theorem h0e (h : F_next_steps β [.dat pg, .dat t] = some (β', .error nothing)) : F_law_heard β [.dat (.int 0), .dat pg, .dat t] = some (β', .ok (.dat noD)) :=
  hd_err (then_err ((ifs_ok (b := true) (show mIs (mBin cEq (mVar 0) (mC (.int 0))) ⟨hf3 0 pg t, β⟩ = some (⟨hf3 0 pg t, β⟩, .ok true) from rfl)).trans (bind_err (call_err (as := [.dat pg, .dat t]) (s1 := ⟨hf3 0 pg t, β⟩) rfl h))))
theorem skip0 {w : Int} {n : M Fl} (hw : w ≠ 0) : mThen (mIfS (mIs (mBin cEq (mVar 0) (mC (.int 0)))) (mRet (mCall F_next_steps [(mVar 1), (mVar 2)])) mNx) n ⟨hf3 w pg t, β⟩ = n ⟨hf3 w pg t, β⟩ := by
  have ht : mIs (mBin cEq (mVar 0) (mC (.int 0))) ⟨hf3 w pg t, β⟩ = some (⟨hf3 w pg t, β⟩, .ok (decide (w = 0))) := isD rfl
  refine then_ok ?_
  rw [ifs_ok ht, decide_eq_false hw]
  rfl
theorem skip1 {w : Int} {n : M Fl} (hw : w ≠ 1) : mThen (mIfS (mIs (mBin cEq (mVar 0) (mC (.int 1)))) (mRet (mCall F_is_place [(mVar 1), (mVar 2)])) mNx) n ⟨hf3 w pg t, β⟩ = n ⟨hf3 w pg t, β⟩ := by
  have ht : mIs (mBin cEq (mVar 0) (mC (.int 1))) ⟨hf3 w pg t, β⟩ = some (⟨hf3 w pg t, β⟩, .ok (decide (w = 1))) := isD rfl
  refine then_ok ?_
  rw [ifs_ok ht, decide_eq_false hw]
  rfl
theorem h1d (h : F_is_place β [.dat pg, .dat t] = some (β', .ok (.dat d))) : F_law_heard β [.dat (.int 1), .dat pg, .dat t] = some (β', .ok (.dat d)) := by
  refine hd_ok ?_
  unfold m_hb
  rw [skip0 (by omega)]
  exact then_rt ((ifs_ok (b := true) (show mIs (mBin cEq (mVar 0) (mC (.int 1))) ⟨hf3 1 pg t, β⟩ = some (⟨hf3 1 pg t, β⟩, .ok true) from rfl)).trans (ret_ok (callD (as := [.dat pg, .dat t]) rfl h)))
theorem h1e (h : F_is_place β [.dat pg, .dat t] = some (β', .error nothing)) : F_law_heard β [.dat (.int 1), .dat pg, .dat t] = some (β', .ok (.dat noD)) := by
  refine hd_err ?_
  unfold m_hb
  rw [skip0 (by omega)]
  exact then_err ((ifs_ok (b := true) (show mIs (mBin cEq (mVar 0) (mC (.int 1))) ⟨hf3 1 pg t, β⟩ = some (⟨hf3 1 pg t, β⟩, .ok true) from rfl)).trans (bind_err (call_err (as := [.dat pg, .dat t]) (s1 := ⟨hf3 1 pg t, β⟩) rfl h)))
theorem h2d (h : F_first_place β [.dat pg] = some (β', .ok (.dat d))) : F_law_heard β [.dat (.int 2), .dat pg, .dat t] = some (β', .ok (.dat d)) := by
  refine hd_ok ?_
  unfold m_hb
  rw [skip0 (by omega), skip1 (by omega)]
  exact ret_ok ((if_ok (b := true) (show mIs (mBin cEq (mVar 0) (mC (.int 2))) ⟨hf3 2 pg t, β⟩ = some (⟨hf3 2 pg t, β⟩, .ok true) from rfl)).trans (callD (as := [.dat pg]) rfl h))
theorem h2e (h : F_first_place β [.dat pg] = some (β', .error nothing)) : F_law_heard β [.dat (.int 2), .dat pg, .dat t] = some (β', .ok (.dat noD)) := by
  refine hd_err ?_
  unfold m_hb
  rw [skip0 (by omega), skip1 (by omega)]
  exact bind_err ((if_ok (b := true) (show mIs (mBin cEq (mVar 0) (mC (.int 2))) ⟨hf3 2 pg t, β⟩ = some (⟨hf3 2 pg t, β⟩, .ok true) from rfl)).trans (call_err (as := [.dat pg]) (s1 := ⟨hf3 2 pg t, β⟩) rfl h))
theorem h3d (h : F_end_place β [.dat pg] = some (β', .ok (.dat d))) : F_law_heard β [.dat (.int 3), .dat pg, .dat t] = some (β', .ok (.dat d)) := by
  refine hd_ok ?_
  unfold m_hb
  rw [skip0 (by omega), skip1 (by omega)]
  exact ret_ok ((if_ok (b := false) (show mIs (mBin cEq (mVar 0) (mC (.int 2))) ⟨hf3 3 pg t, β⟩ = some (⟨hf3 3 pg t, β⟩, .ok false) from rfl)).trans ((if_ok (b := true) (show mIs (mBin cEq (mVar 0) (mC (.int 3))) ⟨hf3 3 pg t, β⟩ = some (⟨hf3 3 pg t, β⟩, .ok true) from rfl)).trans (callD (as := [.dat pg]) rfl h)))
theorem h3e (h : F_end_place β [.dat pg] = some (β', .error nothing)) : F_law_heard β [.dat (.int 3), .dat pg, .dat t] = some (β', .ok (.dat noD)) := by
  refine hd_err ?_
  unfold m_hb
  rw [skip0 (by omega), skip1 (by omega)]
  exact bind_err ((if_ok (b := false) (show mIs (mBin cEq (mVar 0) (mC (.int 2))) ⟨hf3 3 pg t, β⟩ = some (⟨hf3 3 pg t, β⟩, .ok false) from rfl)).trans ((if_ok (b := true) (show mIs (mBin cEq (mVar 0) (mC (.int 3))) ⟨hf3 3 pg t, β⟩ = some (⟨hf3 3 pg t, β⟩, .ok true) from rfl)).trans (call_err (as := [.dat pg]) (s1 := ⟨hf3 3 pg t, β⟩) rfl h)))
theorem h4d (h : F_places β [.dat pg] = some (β', .ok (.dat d))) : F_law_heard β [.dat (.int 4), .dat pg, .dat t] = some (β', .ok (.dat d)) := by
  refine hd_ok ?_
  unfold m_hb
  rw [skip0 (by omega), skip1 (by omega)]
  exact ret_ok ((if_ok (b := false) (show mIs (mBin cEq (mVar 0) (mC (.int 2))) ⟨hf3 4 pg t, β⟩ = some (⟨hf3 4 pg t, β⟩, .ok false) from rfl)).trans ((if_ok (b := false) (show mIs (mBin cEq (mVar 0) (mC (.int 3))) ⟨hf3 4 pg t, β⟩ = some (⟨hf3 4 pg t, β⟩, .ok false) from rfl)).trans (callD (as := [.dat pg]) rfl h)))
theorem h4e (h : F_places β [.dat pg] = some (β', .error nothing)) : F_law_heard β [.dat (.int 4), .dat pg, .dat t] = some (β', .ok (.dat noD)) := by
  refine hd_err ?_
  unfold m_hb
  rw [skip0 (by omega), skip1 (by omega)]
  exact bind_err ((if_ok (b := false) (show mIs (mBin cEq (mVar 0) (mC (.int 2))) ⟨hf3 4 pg t, β⟩ = some (⟨hf3 4 pg t, β⟩, .ok false) from rfl)).trans ((if_ok (b := false) (show mIs (mBin cEq (mVar 0) (mC (.int 3))) ⟨hf3 4 pg t, β⟩ = some (⟨hf3 4 pg t, β⟩, .ok false) from rfl)).trans (call_err (as := [.dat pg]) (s1 := ⟨hf3 4 pg t, β⟩) rfl h)))
end
/-! ### a program with procedures -/
abbrev procD : D := .tuple [.tuple [.str "p", .tuple [], .tuple [], .tuple [], .tuple []]]
section
variable {ps : List D} (h4 : dIx (.tuple ps) (.int 4) = some (.dat procD))
include h4
theorem init_bad (β : Bag) : F_Layout_init { β with os := β.os ++ [.ins "Layout" []] } [.ob β.os.length, .dat (.tuple ps)] = some ({ β with os := β.os ++ [.ins "Layout" []] }, .error nothing) := by
  refine fn_err (s := ⟨i0 β.os.length (.tuple ps) .no .no, { β with os := β.os ++ [.ins "Layout" []] }⟩) ⟨i0 β.os.length (.tuple ps) .no .no, { β with os := β.os ++ [.ins "Layout" []] }⟩ rfl (then_err ?_)
  have ht : mBin dIx (mVar 1) (mC (.int 4)) ⟨i0 β.os.length (.tuple ps) .no .no, { β with os := β.os ++ [.ins "Layout" []] }⟩ = some (⟨i0 β.os.length (.tuple ps) .no .no, { β with os := β.os ++ [.ins "Layout" []] }⟩, .ok (.dat procD)) := binD (d1 := .tuple ps) (d2 := .int 4) rfl rfl h4
  rw [ifs_ok (isD (binD (f := cNe) (d2 := .tuple []) (d := .bool true) ht rfl (by kernel_rfl)))]
  rfl
theorem end_bad (β : Bag) : ∃ β', F_end_place β [.dat (.tuple ps)] = some (β', .error nothing) ∧ β'.cs = β.cs :=
  ⟨_, fn_err (s := ⟨[.dat (.tuple ps)], { β with os := β.os ++ [.ins "Layout" []] }⟩) ⟨[.dat (.tuple ps)], β⟩ rfl (bind_err (bind_err (bind_err (new_err rfl (init_bad h4 β))))), rfl⟩
theorem first_bad (β : Bag) : ∃ β', F_first_place β [.dat (.tuple ps)] = some (β', .error nothing) ∧ β'.cs = β.cs :=
  ⟨_, fn_err (s := ⟨[.dat (.tuple ps)], { β with os := β.os ++ [.ins "Layout" []] }⟩) ⟨[.dat (.tuple ps)], β⟩ rfl (then_err (bind_err (new_err rfl (init_bad h4 β)))), rfl⟩
theorem places_bad (β : Bag) : ∃ β', F_places β [.dat (.tuple ps)] = some (β', .error nothing) ∧ β'.cs = β.cs := by
  obtain ⟨β', e, hc⟩ := end_bad h4 β
  exact ⟨β', fn_err (s := ⟨[.dat (.tuple ps)], β'⟩) ⟨[.dat (.tuple ps)], β⟩ rfl (bind_err (bind_err (bind_err (call_err (as := [.dat (.tuple ps)]) (s1 := ⟨[.dat (.tuple ps)], β⟩) rfl e)))), hc⟩
theorem is_bad (β : Bag) (t : D) : ∃ β', F_is_place β [.dat (.tuple ps), .dat t] = some (β', .error nothing) ∧ β'.cs = β.cs := by
  obtain ⟨β', e, hc⟩ := end_bad h4 β
  exact ⟨β', fn_err (s := ⟨[.dat (.tuple ps), .dat t, .no], β'⟩) ⟨[.dat (.tuple ps), .dat t, .no], β⟩ rfl (then_err (bind_err (call_err (as := [.dat (.tuple ps)]) (s1 := ⟨[.dat (.tuple ps), .dat t, .no], β⟩) rfl e))), hc⟩
theorem nexts_bad (β : Bag) (t : D) : ∃ β', F_next_steps β [.dat (.tuple ps), .dat t] = some (β', .error nothing) ∧ β'.cs = β.cs :=
  ⟨_, fn_err (s := ⟨nx ps t .no .no .no .no, { β with os := β.os ++ [.ins "Layout" []] }⟩) ⟨nx ps t .no .no .no .no, β⟩ rfl (then_err (bind_err (new_err rfl (init_bad h4 β)))), rfl⟩
/-- nothing is told of it -/
theorem heard_bad (β : Bag) (t : D) (w : Nat) (hw : w < 5) : ∃ β', F_law_heard β [.dat (.int (w : Int)), .dat (.tuple ps), .dat t] = some (β', .ok (.dat noD)) ∧ β'.cs = β.cs := by
  rcases (show w = 0 ∨ w = 1 ∨ w = 2 ∨ w = 3 ∨ w = 4 by omega) with rfl | rfl | rfl | rfl | rfl
  · obtain ⟨β', e, hc⟩ := nexts_bad h4 β t; exact ⟨β', h0e e, hc⟩
  · obtain ⟨β', e, hc⟩ := is_bad h4 β t; exact ⟨β', h1e e, hc⟩
  · obtain ⟨β', e, hc⟩ := first_bad h4 β; exact ⟨β', h2e e, hc⟩
  · obtain ⟨β', e, hc⟩ := end_bad h4 β; exact ⟨β', h3e e, hc⟩
  · obtain ⟨β', e, hc⟩ := places_bad h4 β; exact ⟨β', h4e e, hc⟩
end
/-! ### the law's own steps -/
theorem law_at (β : Bag) {L : List En} (hn : (L.map En.at_).Nodup) (x : En) (hx : x ∈ L) (ss : List D) (hl : LawT x ss) : F_law_next β [.dat (dicOf L), .dat (nt x.at_)] = some (β, .ok (.fresh ss)) := by
  have hk := merge_at L [] hn x hx
  refine fn_mapF ⟨[.dat (dicOf L), .dat (nt x.at_), .no, .no, .no, .no, .no, .no], β⟩ rfl ?_
  rw [← hl (dicOf L) x.at_ β]
  refine congrArg _ ?_
  refine (then_ok (s' := ⟨[.dat (dicOf L), .dat (nt x.at_), .no, .no, .no, .no, .no, .no], β⟩) ?_).trans ((then_ok (s' := ⟨[.dat (dicOf L), .dat (nt x.at_), .dat x.d, .dat (.list (ntl x.fs)), .dat (nt x.later), .no, .no, .no], β⟩) ?_).trans rfl)
  · have ht : mIs (mBin cNotInK (mVar 1) (mVar 0)) ⟨[.dat (dicOf L), .dat (nt x.at_), .no, .no, .no, .no, .no, .no], β⟩ = some (⟨[.dat (dicOf L), .dat (nt x.at_), .no, .no, .no, .no, .no, .no], β⟩, .ok false) := by
      refine isD (binD (d1 := nt x.at_) (d2 := dicOf L) rfl rfl ?_)
      show (((some (lookD (mergeD [] (L.map En.kv)) (.inl (x.at_ : Int))).isSome).map (!·)).map fun k => Rs.dat (.bool k)) = _
      rw [hk]; rfl
    rw [ifs_ok ht]
    rfl
  · refine (bind_ok (binD (f := dIxK) (d1 := dicOf L) (d2 := nt x.at_) (d := x.val) (show mVar 0 _ = some (⟨[.dat (dicOf L), .dat (nt x.at_), .no, .no, .no, .no, .no, .no], β⟩, .ok (.dat (dicOf L))) from rfl) rfl ?_)).trans rfl
    show (lookD (mergeD [] (L.map En.kv)) (.inl (x.at_ : Int))).map Rs.dat = _
    rw [hk]; rfl
theorem law_off (β : Bag) {L : List En} (k : Nat) (hk : ∀ x ∈ L, x.at_ ≠ k) : F_law_next β [.dat (dicOf L), .dat (nt k)] = some (β, .ok (.fresh [])) := by
  have hk := merge_look (.inl (k : Int)) L [] fun x hx z => hk x hx (by have := Sum.inl.inj z; omega)
  refine fnF_at (s := ⟨[.dat (dicOf L), .dat (nt k), .no, .no, .no, .no, .no, .no], β⟩) (r := .fresh []) ⟨[.dat (dicOf L), .dat (nt k), .no, .no, .no, .no, .no, .no], β⟩ rfl (then_rt ?_) rfl
  have ht : mIs (mBin cNotInK (mVar 1) (mVar 0)) ⟨[.dat (dicOf L), .dat (nt k), .no, .no, .no, .no, .no, .no], β⟩ = some (⟨[.dat (dicOf L), .dat (nt k), .no, .no, .no, .no, .no, .no], β⟩, .ok true) := by
    refine isD (binD (d1 := nt k) (d2 := dicOf L) rfl rfl ?_)
    show (((some (lookD (mergeD [] (L.map En.kv)) (.inl (k : Int))).isSome).map (!·)).map fun k => Rs.dat (.bool k)) = _
    rw [hk]; rfl
  rw [ifs_ok ht]
  rfl
end Pu
/-! S18 (k03): a lap, step by step. -/
namespace Pu
open PySem PySem.Spec PyProof.Rows L2
theorem loopC_yes {vs : List Nat} {p : D → M Unit} {me : M Rv} {d y : D} {ds acc : List D} {ρ ρ2 : List Sl} {β β' : Bag} (h1 : p d ⟨ρ, β⟩ = some (⟨ρ2, β⟩, .ok ())) (h2 : me ⟨ρ2, β⟩ = some (⟨ρ2, β'⟩, .ok (.dat y))) (h3 : wipeS ρ2 vs = ρ) (hl : acc.length < 100000) :
    loopC vs p mYes me (d :: ds) acc ⟨ρ, β⟩ = loopC vs p mYes me ds (acc ++ [y]) ⟨ρ, β'⟩ := by
  have e1 : calm mYes (⟨ρ2, β⟩ : S) = some (⟨ρ2, β⟩, .ok true) := rfl
  have e2 : calm me ⟨ρ2, β⟩ = some (⟨ρ2, β'⟩, .ok (.dat y)) := by unfold calm; rw [h2]
  rw [loopC]
  unfold M.bind
  simp only [h1, e1, e2, if_true, retain]
  rw [if_pos (by rw [sizeLine_eq]; omega), h3]
theorem loopC_no {vs : List Nat} {p : D → M Unit} {mt : M Bool} {me : M Rv} {d : D} {ds acc : List D} {ρ ρ2 : List Sl} {β β' : Bag} (h1 : p d ⟨ρ, β⟩ = some (⟨ρ2, β⟩, .ok ())) (h2 : mt ⟨ρ2, β⟩ = some (⟨ρ2, β'⟩, .ok false)) (h3 : wipeS ρ2 vs = ρ) :
    loopC vs p mt me (d :: ds) acc ⟨ρ, β⟩ = loopC vs p mt me ds acc ⟨ρ, β'⟩ := by
  have e1 : calm mt ⟨ρ2, β⟩ = some (⟨ρ2, β'⟩, .ok false) := by unfold calm; rw [h2]
  rw [loopC]
  unfold M.bind
  simp only [h1, e1, if_false, Bool.false_eq_true, h3]
theorem rng1_ok {m : M Rv} {s s' : S} {i : Int} (h : m s = some (s', .ok (.dat (.int i)))) (hs : small62 i = true) : mRng1 m s = some (s', .ok (rangeD 0 i.toNat)) := by
  unfold mRng1
  refine (bind_ok h).trans ?_
  simp only [hs, if_true]
  rfl
theorem al_ok {β : Bag} {d : D} (h : okRep d = true) (hp : d.plain = true) : F_alike β [.dat d, .dat d] = some (β, .ok (.dat (.bool true))) := by
  unfold F_alike
  simp only [h, sameD_refl _ hp, Bool.and_self, if_true]
theorem nice_list {c k n : Nat} {xs : List D} (h : ∀ x ∈ xs, Nice c k x) (hn : xs.length ≤ n) : Nice (n * (c + 1)) (k + 1) (.list xs) := by
  obtain ⟨h1, h2, h3, h4, h5, h6⟩ := nice_all h
  refine ⟨by simpa only [PyData.plain] using h1, by simpa only [PyData.showable] using h2, by simpa only [PyData.canLay0] using h3, by simpa only [tinyD] using h4, by simp only [PyData.depth]; omega, ?_⟩
  simp only [PyData.weight]
  exact Nat.le_trans h6 (Nat.mul_le_mul_right _ hn)
theorem okRep_ofL {c k : Nat} {ds : List D} (h : Nice c k (.list ds)) (hk : k ≤ 50) (hc : c ≤ 1000000) : okRep (.list ds) = true := by
  show okRep.okSeq (.list ds) = true
  unfold okRep.okSeq
  unfold PyData.layable0
  have e1 : decide ((PyData.list ds).depth ≤ 50) = true := decide_eq_true (by have := h.dp; omega)
  have e2 : decide ((PyData.list ds).depth ≤ 64) = true := decide_eq_true (by have := h.dp; omega)
  have e3 : decide ((PyData.list ds).weight ≤ 2 ^ 20) = true := decide_eq_true (by have := h.wt; omega)
  rw [h.pl, h.sh, h.cl, h.ti, e1, e2, e3]
  rfl
/-- a program of the law -/
abbrev pgm (p0 p1 p2 p3 : D) (b : B) : List D := [p0, p1, p2, p3, .tuple [], .tuple b.ds]
theorem pgm_ok (p0 p1 p2 p3 : D) (b : B) : PrOk (pgm p0 p1 p2 p3 b) b := ⟨rfl, rfl⟩
abbrev lw (x0 x2 : Sl) (pg lad : D) (en : Nat) (x6 x7 x8 : Sl) : List Sl := [x0, .bag, x2, .dat pg, .dat lad, .dat (nt en), x6, x7, x8, .no]
section
variable {p0 p1 p2 p3 : D} {b : B} (ok : Ok b 4) (sb : b.size ≤ 63) {x0 x2 x4 x5 x6 x7 x8 : Sl}
include ok sb
theorem l1_ok (β : Bag) : m_l1 ⟨[x0, .bag, x2, .dat (.tuple (pgm p0 p1 p2 p3 b)), x4, x5, x6, x7, x8, .no], β⟩ = some (⟨lw x0 x2 (.tuple (pgm p0 p1 p2 p3 b)) (dicOf (lstO b)) b.size x6 x7 x8, β⟩, .ok .nx) := by
  have h1 : mCall F_law_places [(mVar 3)] ⟨[x0, .bag, x2, .dat (.tuple (pgm p0 p1 p2 p3 b)), x4, x5, x6, x7, x8, .no], β⟩ = some (⟨[x0, .bag, x2, .dat (.tuple (pgm p0 p1 p2 p3 b)), x4, x5, x6, x7, x8, .no], β⟩, .ok (.dat (dicOf (lstO b)))) :=
    callD (as := [.dat (.tuple (pgm p0 p1 p2 p3 b))]) rfl (places_ok β _ ok (by omega) (by omega) rfl)
  have h2 : mCall F_law_size [(mBin dIx (mVar 3) (mC (.int 5)))] ⟨[x0, .bag, x2, .dat (.tuple (pgm p0 p1 p2 p3 b)), x4, x5, x6, x7, x8, .no], β⟩ = some (⟨[x0, .bag, x2, .dat (.tuple (pgm p0 p1 p2 p3 b)), x4, x5, x6, x7, x8, .no], β⟩, .ok (.dat (nt b.size))) :=
    callD (as := [.dat (.tuple b.ds)]) rfl (law_size_ok β ok (by omega) (by omega))
  exact (bind_ok h1).trans ((bind_ok h2).trans rfl)
theorem l2_ok (β : Bag) (lad : D) : ∃ β', m_l2 ⟨lw x0 x2 (.tuple (pgm p0 p1 p2 p3 b)) lad b.size x6 x7 x8, β⟩ = some (⟨lw x0 x2 (.tuple (pgm p0 p1 p2 p3 b)) lad b.size x6 x7 x8, β'⟩, .ok .nx) ∧ β'.cs = β.cs := by
  obtain ⟨β1, e1, c1⟩ := first_ok (pgm_ok p0 p1 p2 p3 b) ok (by omega) β
  obtain ⟨β2, e2, c2⟩ := end_ok (pgm_ok p0 p1 p2 p3 b) ok (by omega) β1
  obtain ⟨β3, e3, c3⟩ := places_all (pgm_ok p0 p1 p2 p3 b) ok (by omega) β2
  refine ⟨β3, ?_, by rw [c3, c2, c1]⟩
  have hc : mComp [9] (mSeq (mTup [(mC (.int 2)), (mC (.int 3)), (mC (.int 4))])) (.nm 9) mYes (mCall F_law_heard [(mVar 9), (mVar 3), (mC .none)]) ⟨lw x0 x2 (.tuple (pgm p0 p1 p2 p3 b)) lad b.size x6 x7 x8, β⟩ =
      some (⟨lw x0 x2 (.tuple (pgm p0 p1 p2 p3 b)) lad b.size x6 x7 x8, β3⟩, .ok (.fresh [.int 0, nt b.size, .tuple (rangeD 0 (b.size + 1))])) := by
    refine (bind_ok (show mSeq (mTup [(mC (.int 2)), (mC (.int 3)), (mC (.int 4))]) _ = some (_, .ok [.int 2, .int 3, .int 4]) from rfl)).trans ?_
    have hl : loopC [9] (Tg.put (.nm 9)) mYes (mCall F_law_heard [(mVar 9), (mVar 3), (mC .none)]) [.int 2, .int 3, .int 4] [] ⟨lw x0 x2 (.tuple (pgm p0 p1 p2 p3 b)) lad b.size x6 x7 x8, β⟩ = some (⟨lw x0 x2 (.tuple (pgm p0 p1 p2 p3 b)) lad b.size x6 x7 x8, β3⟩, .ok [.int 0, nt b.size, .tuple (rangeD 0 (b.size + 1))]) := by
      refine (loopC_yes (y := .int 0) (β' := β1) (ρ2 := [x0, .bag, x2, .dat (.tuple (pgm p0 p1 p2 p3 b)), .dat lad, .dat (nt b.size), x6, x7, x8, .dat (.int 2)]) rfl (callD (as := [.dat (.int 2), .dat (.tuple (pgm p0 p1 p2 p3 b)), .dat .none]) rfl (h2d e1)) rfl (by simp)).trans ?_
      refine (loopC_yes (y := nt b.size) (β' := β2) (ρ2 := [x0, .bag, x2, .dat (.tuple (pgm p0 p1 p2 p3 b)), .dat lad, .dat (nt b.size), x6, x7, x8, .dat (.int 3)]) rfl (callD (as := [.dat (.int 3), .dat (.tuple (pgm p0 p1 p2 p3 b)), .dat .none]) rfl (h3d e2)) rfl (by simp)).trans ?_
      refine (loopC_yes (y := .tuple (rangeD 0 (b.size + 1))) (β' := β3) (ρ2 := [x0, .bag, x2, .dat (.tuple (pgm p0 p1 p2 p3 b)), .dat lad, .dat (nt b.size), x6, x7, x8, .dat (.int 4)]) rfl (callD (as := [.dat (.int 4), .dat (.tuple (pgm p0 p1 p2 p3 b)), .dat .none]) rfl (h4d e3)) rfl (by simp)).trans ?_
      rfl
    exact (bind_ok hl).trans rfl
  have nr : Nice 520 2 (.tuple (rangeD 0 (b.size + 1))) := by
    refine (nice_tuple (n := 65) (c := 7) (k := 0) (fun x hx => ?_) (by unfold rangeD; simp; omega)).mono (by omega) (by omega)
    unfold rangeD at hx
    obtain ⟨j, hj, rfl⟩ := List.mem_map.mp hx
    rw [List.mem_range] at hj
    exact nice_int ⟨by omega, by omega⟩
  have nl : Nice 1563 3 (.list [.int 0, nt b.size, .tuple (rangeD 0 (b.size + 1))]) := by
    refine (nice_list (n := 3) (c := 520) (k := 2) (fun x hx => ?_) (by simp)).mono (by omega) (by omega)
    (simp only [List.mem_cons, List.not_mem_nil, or_false] at hx)
    rcases hx with rfl | rfl | rfl
    · exact (nice_int (x := 0) ⟨by omega, by omega⟩).mono (by omega) (by omega)
    · exact (nice_int (few_nt (i := b.size) (by omega))).mono (by omega) (by omega)
    · exact nr
  have ha : mArgs [(mComp [9] (mSeq (mTup [(mC (.int 2)), (mC (.int 3)), (mC (.int 4))])) (.nm 9) mYes (mCall F_law_heard [(mVar 9), (mVar 3), (mC .none)])), (mLst [(mC (.int 0)), (mVar 5), (mUn dRgT (mBin dAdd (mVar 5) (mC (.int 1))))])] ⟨lw x0 x2 (.tuple (pgm p0 p1 p2 p3 b)) lad b.size x6 x7 x8, β⟩ =
      some (⟨lw x0 x2 (.tuple (pgm p0 p1 p2 p3 b)) lad b.size x6 x7 x8, β3⟩, .ok [.dat (.list [.int 0, nt b.size, .tuple (rangeD 0 (b.size + 1))]), .dat (.list [.int 0, nt b.size, .tuple (rangeD 0 (b.size + 1))])]) := by
    refine args_fresh hc (args_fresh (lst_ok (as := [.dat (.int 0), .dat (nt b.size), .dat (.tuple (rangeD 0 (b.size + 1)))]) (args_cons' rfl (args_cons' rfl (args_cons' (unD (d1 := .int ((b.size : Int) + 1)) rfl ?_) args_nil))) rfl) args_nil)
    have hj : -(2 ^ 62) ≤ (b.size : Int) + 1 ∧ (b.size : Int) + 1 ≤ 2 ^ 24 := by constructor <;> omega
    unfold dRgT
    simp only
    rw [if_pos hj, show ((b.size : Int) + 1).toNat = b.size + 1 by omega]
  unfold m_l2
  rw [ifs_ok (not_ok (isD (callD ha (al_ok (okRep_ofL nl (by omega) (by omega)) nl.pl))))]
  rfl
/-! all places -/
def m_pl : M Fl := (mIfS (mOrT (mNotT (mIs (mCall F_alike [(mCall F_law_heard [(mC (.int 0)), (mVar 3), (mVar 6)]), (mUn dTuple (mCall F_law_next [(mVar 4), (mVar 6)]))]))) (mIs (mBin cNotB (mCall F_law_heard [(mC (.int 1)), (mVar 3), (mVar 6)]) (mC (.bool true))))) (mRet (mC (.bool false))) mNx)
theorem at_ok (k : Nat) (hk : k ≤ b.size) : ∃ ss, (∀ β, ∃ β', F_next_steps β [.dat (.tuple (pgm p0 p1 p2 p3 b)), .dat (nt k)] = some (β', .ok (.dat (.tuple ss))) ∧ β'.cs = β.cs) ∧ (∀ β, F_law_next β [.dat (dicOf (lstO b)), .dat (nt k)] = some (β, .ok (.fresh ss))) ∧ Nice 2438 6 (.tuple ss) := by
  have ha := ats b 0 b.size
  by_cases q : k < b.size
  · have hm : k ∈ (lstO b).map En.at_ := by
      rw [ha, List.mem_range'_1]
      omega
    (obtain ⟨x, hx, rfl⟩ := List.mem_map.mp hm)
    obtain ⟨f1, f2⟩ := laid_few b 0 b.size 63 (by omega) (by omega) x hx
    obtain ⟨ss, h1, h2, h3⟩ := entry (laid_form b 4 0 b.size ok x hx) (by omega) (fun y hy => by have := f2 y hy; omega)
    exact ⟨ss, fun β => next_at (pgm_ok p0 p1 p2 p3 b) ok (by omega) β x hx ss h1, fun β => law_at β (by rw [ha]; exact List.nodup_range') x hx ss h2, h3⟩
  · have e : k = b.size := by omega
    subst e
    refine ⟨[], fun β => next_end (pgm_ok p0 p1 p2 p3 b) ok (by omega) β, fun β => law_off β b.size fun x hx z => ?_, nice_steps (fun a ha => by cases ha) (by simp)⟩
    have : x.at_ ∈ (lstO b).map En.at_ := List.mem_map_of_mem hx
    rw [ha, List.mem_range'_1] at this
    omega
theorem pl_ok (β : Bag) (k : Nat) (hk : k ≤ b.size) : ∃ β', m_pl ⟨lw x0 x2 (.tuple (pgm p0 p1 p2 p3 b)) (dicOf (lstO b)) b.size (.dat (nt k)) x7 x8, β⟩ = some (⟨lw x0 x2 (.tuple (pgm p0 p1 p2 p3 b)) (dicOf (lstO b)) b.size (.dat (nt k)) x7 x8, β'⟩, .ok .nx) ∧ β'.cs = β.cs := by
  obtain ⟨ss, h1, h2, h3⟩ := at_ok (p0 := p0) (p1 := p1) (p2 := p2) (p3 := p3) ok sb k hk
  obtain ⟨β1, e1, c1⟩ := h1 β
  have hi : F_is_index β1 [.dat (nt k)] = some (β1, .ok (.dat (.bool true))) := by rw [show (nt k : D) = .int (k : Int) from rfl, idx_int, decide_eq_true (by omega)]
  obtain ⟨β2, e2, c2⟩ := is_ok (pgm_ok p0 p1 p2 p3 b) ok (by omega) β1 (nt k) true (fun β => by rw [show (nt k : D) = .int (k : Int) from rfl, idx_int, decide_eq_true (by omega)]) true (fun _ => by
    show some (Rs.dat (.bool (decide ((k : Int) ≤ (b.size : Int))))) = _
    rw [decide_eq_true (by omega)])
  refine ⟨β2, ?_, by rw [c2, c1]⟩
  have a1 : mCall F_law_heard [(mC (.int 0)), (mVar 3), (mVar 6)] ⟨lw x0 x2 (.tuple (pgm p0 p1 p2 p3 b)) (dicOf (lstO b)) b.size (.dat (nt k)) x7 x8, β⟩ = some (⟨lw x0 x2 (.tuple (pgm p0 p1 p2 p3 b)) (dicOf (lstO b)) b.size (.dat (nt k)) x7 x8, β1⟩, .ok (.dat (.tuple ss))) := callD (as := [.dat (.int 0), .dat (.tuple (pgm p0 p1 p2 p3 b)), .dat (nt k)]) rfl (h0d e1)
  have a2 : mUn dTuple (mCall F_law_next [(mVar 4), (mVar 6)]) ⟨lw x0 x2 (.tuple (pgm p0 p1 p2 p3 b)) (dicOf (lstO b)) b.size (.dat (nt k)) x7 x8, β1⟩ = some (⟨lw x0 x2 (.tuple (pgm p0 p1 p2 p3 b)) (dicOf (lstO b)) b.size (.dat (nt k)) x7 x8, β1⟩, .ok (.dat (.tuple ss))) :=
    un_ok (r := .fresh ss) (d := .list ss) (res := .dat (.tuple ss)) (callF (as := [.dat (dicOf (lstO b)), .dat (nt k)]) rfl (h2 β1)) rfl rfl
  have a3 := isD (callD (args_cons' a1 (args_cons' a2 args_nil)) (al_ok (β := β1) (okRep_of h3 (by omega) (by omega)) h3.pl))
  have a4 : mIs (mBin cNotB (mCall F_law_heard [(mC (.int 1)), (mVar 3), (mVar 6)]) (mC (.bool true))) ⟨lw x0 x2 (.tuple (pgm p0 p1 p2 p3 b)) (dicOf (lstO b)) b.size (.dat (nt k)) x7 x8, β1⟩ = some (⟨lw x0 x2 (.tuple (pgm p0 p1 p2 p3 b)) (dicOf (lstO b)) b.size (.dat (nt k)) x7 x8, β2⟩, .ok false) :=
    isD (binD (d1 := .bool true) (d2 := .bool true) (callD (as := [.dat (.int 1), .dat (.tuple (pgm p0 p1 p2 p3 b)), .dat (nt k)]) rfl (h1d e2)) rfl rfl)
  unfold m_pl
  rw [ifs_ok ((or_f (not_ok a3)).trans a4)]
  rfl
theorem pls_ok : ∀ (ks : List Nat) (β : Bag) (x6 : Sl), (∀ k ∈ ks, k ≤ b.size) → ∃ β' y6, loopF (Tg.put (.nm 6)) m_pl (ks.map nt) ⟨lw x0 x2 (.tuple (pgm p0 p1 p2 p3 b)) (dicOf (lstO b)) b.size x6 x7 x8, β⟩ = some (⟨lw x0 x2 (.tuple (pgm p0 p1 p2 p3 b)) (dicOf (lstO b)) b.size y6 x7 x8, β'⟩, .ok .nx) ∧ β'.cs = β.cs
  | [], β, x6, _ => ⟨β, x6, rfl, rfl⟩
  | k :: ks, β, x6, h => by
    obtain ⟨β1, e1, c1⟩ := pl_ok (p0 := p0) (p1 := p1) (p2 := p2) (p3 := p3) (x0 := x0) (x2 := x2) (x7 := x7) (x8 := x8) ok sb β k (h k (by simp))
    obtain ⟨β2, y6, e2, c2⟩ := pls_ok ks β1 (.dat (nt k)) fun j hj => h j (by simp [hj])
    refine ⟨β2, y6, ?_, by rw [c2, c1]⟩
    rw [List.map_cons, loopF]
    exact (bind_ok (show Tg.put (.nm 6) (nt k) _ = some (⟨lw x0 x2 (.tuple (pgm p0 p1 p2 p3 b)) (dicOf (lstO b)) b.size (.dat (nt k)) x7 x8, β⟩, .ok ()) from rfl)).trans ((bind_ok e1).trans e2)
theorem l3_ok (β : Bag) : ∃ β' y6, m_l3 ⟨lw x0 x2 (.tuple (pgm p0 p1 p2 p3 b)) (dicOf (lstO b)) b.size x6 x7 x8, β⟩ = some (⟨lw x0 x2 (.tuple (pgm p0 p1 p2 p3 b)) (dicOf (lstO b)) b.size y6 x7 x8, β'⟩, .ok .nx) ∧ β'.cs = β.cs := by
  obtain ⟨β', y6, e, c⟩ := pls_ok (p0 := p0) (p1 := p1) (p2 := p2) (p3 := p3) (x0 := x0) (x2 := x2) (x7 := x7) (x8 := x8) ok sb (List.range (b.size + 1)) β x6 fun k hk => by rw [List.mem_range] at hk; omega
  refine ⟨β', y6, ?_, c⟩
  have hr : mRng1 (mBin dAdd (mVar 5) (mC (.int 1))) ⟨lw x0 x2 (.tuple (pgm p0 p1 p2 p3 b)) (dicOf (lstO b)) b.size x6 x7 x8, β⟩ = some (⟨lw x0 x2 (.tuple (pgm p0 p1 p2 p3 b)) (dicOf (lstO b)) b.size x6 x7 x8, β⟩, .ok ((List.range (b.size + 1)).map nt)) := by
    have hs : small62 ((b.size : Int) + 1) = true := by
      unfold small62
      rw [decide_eq_true (show -(2 ^ 62 : Int) ≤ (b.size : Int) + 1 by omega), decide_eq_true (show (b.size : Int) + 1 < 2 ^ 62 by omega)]
      rfl
    have hz : rangeD 0 ((b.size : Int) + 1).toNat = (List.range (b.size + 1)).map nt := by
      rw [show ((b.size : Int) + 1).toNat = b.size + 1 by omega]
      unfold rangeD
      simp only [Int.zero_add]
    rw [← hz]
    exact rng1_ok (binD (d1 := nt b.size) (d2 := .int 1) rfl rfl rfl) hs
  have hm : m_l3 = mFor (mRng1 (mBin dAdd (mVar 5) (mC (.int 1)))) (.nm 6) m_pl := rfl
  rw [hm]
  unfold mFor
  rw [bind_ok hr]
  exact e
end
end Pu
/-! S19 (k03): the plain law. -/
namespace Pu
open PySem PySem.Spec PyProof.Rows L2
def m_th : M Fl := (mIfS (mOrT (mIs (mBin cNe (mCall F_law_heard [(mC (.int 0)), (mVar 3), (mVar 7)]) (mC (.str "nothing")))) (mIs (mBin cNotB (mCall F_law_heard [(mC (.int 1)), (mVar 3), (mVar 7)]) (mC (.bool false))))) (mRet (mC (.bool false))) mNx)
theorem comp_gen {vs : List Nat} {mi : M (List D)} {t : Tg} {mt : M Bool} {me : M Rv} {s s1 s2 : S} {ds acc : List D} (hi : mi s = some (s1, .ok ds)) (hf : freeS s1.ρ vs = true) (h : loopC vs t.put mt me ds [] { s1 with ρ := wipeS s1.ρ vs } = some (s2, .ok acc)) :
    mComp vs mi t mt me s = some ({ s2 with ρ := backS s1.ρ s2.ρ vs }, .ok (.fresh acc)) := by
  unfold mComp
  refine (bind_ok hi).trans ?_
  simp only [hf, if_true]
  exact (bind_ok h).trans rfl
/-- a value that is no place -/
structure Off (pg t : D) : Prop where
  a : ∀ β, ∃ β', F_next_steps β [.dat pg, .dat t] = some (β', .error nothing) ∧ β'.cs = β.cs
  b : ∀ β, ∃ β', F_is_place β [.dat pg, .dat t] = some (β', .ok (.dat (.bool false))) ∧ β'.cs = β.cs
section
variable {p0 p1 p2 p3 : D} {b : B} (ok : Ok b 4) (sb : b.size ≤ 63) {x0 x2 x4 x5 x6 x7 x8 : Sl}
include ok sb
theorem off_no {t : D} (h : ∀ β, F_is_index β [.dat t] = some (β, .ok (.dat (.bool false)))) : Off (.tuple (pgm p0 p1 p2 p3 b)) t :=
  ⟨fun β => next_bad (pgm_ok p0 p1 p2 p3 b) ok (by omega) β t h, fun β => is_ok (pgm_ok p0 p1 p2 p3 b) ok (by omega) β t false h false nofun⟩
theorem off_big : Off (.tuple (pgm p0 p1 p2 p3 b)) (.int ((b.size : Int) + 1)) :=
  ⟨fun β => next_big (pgm_ok p0 p1 p2 p3 b) ok (by omega) β _ (by omega), fun β => is_ok (pgm_ok p0 p1 p2 p3 b) ok (by omega) β _ true (fun β => by rw [idx_int, decide_eq_true (by omega)]) false fun _ => by
    show some (Rs.dat (.bool (decide ((b.size : Int) + 1 ≤ (b.size : Int))))) = _
    rw [decide_eq_false (by omega)]⟩
omit ok sb
theorem or_off {pg t : D} (h : Off pg t) {ρ : List Sl} {β : Bag} {mt : M Rv} (h1 : ∀ β, mArgs [(mC (.int 0)), (mVar 3), mt] ⟨ρ, β⟩ = some (⟨ρ, β⟩, .ok [.dat (.int 0), .dat pg, .dat t])) (h2 : ∀ β, mArgs [(mC (.int 1)), (mVar 3), mt] ⟨ρ, β⟩ = some (⟨ρ, β⟩, .ok [.dat (.int 1), .dat pg, .dat t])) :
    ∃ β', mIfS (mOrT (mIs (mBin cNe (mCall F_law_heard [(mC (.int 0)), (mVar 3), mt]) (mC (.str "nothing")))) (mIs (mBin cNotB (mCall F_law_heard [(mC (.int 1)), (mVar 3), mt]) (mC (.bool false))))) (mRet (mC (.bool false))) mNx ⟨ρ, β⟩ = some (⟨ρ, β'⟩, .ok .nx) ∧ β'.cs = β.cs := by
  obtain ⟨β1, e1, c1⟩ := h.a β
  obtain ⟨β2, e2, c2⟩ := h.b β1
  refine ⟨β2, ?_, by rw [c2, c1]⟩
  have a1 : mIs (mBin cNe (mCall F_law_heard [(mC (.int 0)), (mVar 3), mt]) (mC (.str "nothing"))) ⟨ρ, β⟩ = some (⟨ρ, β1⟩, .ok false) := isD (binD (d1 := noD) (d2 := .str "nothing") (callD (h1 β) (h0e e1)) rfl (by kernel_rfl))
  have a2 : mIs (mBin cNotB (mCall F_law_heard [(mC (.int 1)), (mVar 3), mt]) (mC (.bool false))) ⟨ρ, β1⟩ = some (⟨ρ, β2⟩, .ok false) := isD (binD (d1 := .bool false) (d2 := .bool false) (callD (h2 β1) (h1d e2)) rfl rfl)
  rw [ifs_ok ((or_f a1).trans a2)]
  rfl
theorem ths_ok {pg lad : D} {en : Nat} : ∀ (ts : List D) (β : Bag) (x7 : Sl), (∀ t ∈ ts, Off pg t) → ∃ β' y7, loopF (Tg.put (.nm 7)) m_th ts ⟨lw x0 x2 pg lad en x6 x7 x8, β⟩ = some (⟨lw x0 x2 pg lad en x6 y7 x8, β'⟩, .ok .nx) ∧ β'.cs = β.cs
  | [], β, x7, _ => ⟨β, x7, rfl, rfl⟩
  | t :: ts, β, x7, h => by
    obtain ⟨β1, e1, c1⟩ := or_off (h t (by simp)) (ρ := lw x0 x2 pg lad en x6 (.dat t) x8) (β := β) (mt := mVar 7) (fun _ => rfl) (fun _ => rfl)
    obtain ⟨β2, y7, e2, c2⟩ := ths_ok ts β1 (.dat t) fun j hj => h j (by simp [hj])
    refine ⟨β2, y7, ?_, by rw [c2, c1]⟩
    rw [loopF]
    exact (bind_ok (show Tg.put (.nm 7) t _ = some (⟨lw x0 x2 pg lad en x6 (.dat t) x8, β⟩, .ok ()) from rfl)).trans ((bind_ok (show m_th _ = _ from e1)).trans e2)
include ok sb
theorem l4_ok (β : Bag) (lad : D) : ∃ β' y7, m_l4 ⟨lw x0 x2 (.tuple (pgm p0 p1 p2 p3 b)) lad b.size x6 x7 x8, β⟩ = some (⟨lw x0 x2 (.tuple (pgm p0 p1 p2 p3 b)) lad b.size x6 y7 x8, β'⟩, .ok .nx) ∧ β'.cs = β.cs := by
  obtain ⟨β', y7, e, c⟩ := ths_ok (x0 := x0) (x2 := x2) (x6 := x6) (x8 := x8) (pg := .tuple (pgm p0 p1 p2 p3 b)) (lad := lad) (en := b.size) [.int (-1), .int ((b.size : Int) + 1), .none, .str "0", .tuple [.int 0]] β x7 (fun t ht => by
    simp only [List.mem_cons, List.not_mem_nil, or_false] at ht
    rcases ht with rfl | rfl | rfl | rfl | rfl
    · exact off_no ok sb fun β => by kernel_rfl
    · exact off_big ok sb
    · exact off_no ok sb fun β => by kernel_rfl
    · exact off_no ok sb fun β => by kernel_rfl
    · exact off_no ok sb fun β => by kernel_rfl)
  refine ⟨β', y7, ?_, c⟩
  have hm : m_l4 = mFor (mSeq (mTup [(mC (.int (-1))), (mBin dAdd (mVar 5) (mC (.int 1))), (mC .none), (mC (.str "0")), (mTup [(mC (.int 0))])])) (.nm 7) m_th := rfl
  rw [hm]
  unfold mFor
  rw [bind_ok (show mSeq (mTup [(mC (.int (-1))), (mBin dAdd (mVar 5) (mC (.int 1))), (mC .none), (mC (.str "0")), (mTup [(mC (.int 0))])]) _ = some (⟨lw x0 x2 (.tuple (pgm p0 p1 p2 p3 b)) lad b.size x6 x7 x8, β⟩, .ok [.int (-1), .int ((b.size : Int) + 1), .none, .str "0", .tuple [.int 0]]) from rfl)]
  exact e
theorem l5_ok (β : Bag) (lad : D) : ∃ β', m_l5 ⟨lw x0 x2 (.tuple (pgm p0 p1 p2 p3 b)) lad b.size x6 x7 x8, β⟩ = some (⟨lw x0 x2 (.tuple (pgm p0 p1 p2 p3 b)) lad b.size x6 x7 x8, β'⟩, .ok .nx) ∧ β'.cs = β.cs :=
  or_off (pg := .tuple (pgm p0 p1 p2 p3 b)) (t := .bool true) (off_no ok sb fun β => by kernel_rfl) (ρ := lw x0 x2 (.tuple (pgm p0 p1 p2 p3 b)) lad b.size x6 x7 x8) (mt := mC (.bool true)) (fun _ => rfl) (fun _ => rfl)
omit ok sb
abbrev oth (p0 p1 p2 p3 : D) (b : B) : List D := [p0, p1, p2, p3, procD, .tuple b.ds]
theorem l6_ok (β : Bag) (lad : D) (en : Nat) : m_l6 ⟨lw x0 x2 (.tuple (pgm p0 p1 p2 p3 b)) lad en x6 x7 x8, β⟩ = some (⟨lw x0 x2 (.tuple (pgm p0 p1 p2 p3 b)) lad en x6 x7 (.dat (.tuple (oth p0 p1 p2 p3 b))), β⟩, .ok .nx) := by
  refine set_ok (s' := ⟨lw x0 x2 (.tuple (pgm p0 p1 p2 p3 b)) lad en x6 x7 x8, β⟩) (d := .tuple (oth p0 p1 p2 p3 b)) ?_
  refine binD (d1 := .tuple [p0, p1, p2, p3]) (d2 := .tuple [procD, .tuple b.ds]) (s1 := ⟨lw x0 x2 (.tuple (pgm p0 p1 p2 p3 b)) lad en x6 x7 x8, β⟩) rfl rfl ?_
  unfold dAdd
  simp only
  rw [if_pos (by rw [sizeLine_eq]; simp)]
  rfl
theorem no_loop {pg lad : D} {en : Nat} : ∀ (ws : List Nat) (β : Bag), (∀ w ∈ ws, w < 5) → ∃ β', loopC [9] (Tg.put (.nm 9)) (mIs (mBin cNe (mCall F_law_heard [(mVar 9), (mVar 8), (mC (.int 0))]) (mC (.str "nothing")))) (mVar 9) (ws.map nt) [] ⟨lw x0 x2 pg lad en x6 x7 (.dat (.tuple (oth p0 p1 p2 p3 b))), β⟩ = some (⟨lw x0 x2 pg lad en x6 x7 (.dat (.tuple (oth p0 p1 p2 p3 b))), β'⟩, .ok []) ∧ β'.cs = β.cs
  | [], β, _ => ⟨β, rfl, rfl⟩
  | w :: ws, β, h => by
    obtain ⟨β1, e1, c1⟩ := heard_bad (ps := oth p0 p1 p2 p3 b) rfl β (.int 0) w (h w (by simp))
    obtain ⟨β2, e2, c2⟩ := no_loop ws β1 fun j hj => h j (by simp [hj])
    refine ⟨β2, ?_, by rw [c2, c1]⟩
    rw [List.map_cons]
    refine (loopC_no (ρ2 := [x0, .bag, x2, .dat pg, .dat lad, .dat (nt en), x6, x7, .dat (.tuple (oth p0 p1 p2 p3 b)), .dat (nt w)]) (β' := β1) rfl ?_ rfl).trans e2
    exact isD (binD (d1 := noD) (d2 := .str "nothing") (callD (as := [.dat (nt w), .dat (.tuple (oth p0 p1 p2 p3 b)), .dat (.int 0)]) rfl e1) rfl (by kernel_rfl))
theorem l7_ok (β : Bag) (pg lad : D) (en : Nat) : ∃ β', m_l7 ⟨lw x0 x2 pg lad en x6 x7 (.dat (.tuple (oth p0 p1 p2 p3 b))), β⟩ = some (⟨lw x0 x2 pg lad en x6 x7 (.dat (.tuple (oth p0 p1 p2 p3 b))), β'⟩, .ok .nx) ∧ β'.cs = β.cs := by
  obtain ⟨β', e, c⟩ := no_loop (p0 := p0) (p1 := p1) (p2 := p2) (p3 := p3) (b := b) (x0 := x0) (x2 := x2) (x6 := x6) (x7 := x7) (pg := pg) (lad := lad) (en := en) [0, 1, 2, 3, 4] β (by intro w hw; simp only [List.mem_cons, List.not_mem_nil, or_false] at hw; omega)
  refine ⟨β', ?_, c⟩
  have hc : mComp [9] (mRng1 (mC (.int 5))) (.nm 9) (mIs (mBin cNe (mCall F_law_heard [(mVar 9), (mVar 8), (mC (.int 0))]) (mC (.str "nothing")))) (mVar 9) ⟨lw x0 x2 pg lad en x6 x7 (.dat (.tuple (oth p0 p1 p2 p3 b))), β⟩ = some (⟨lw x0 x2 pg lad en x6 x7 (.dat (.tuple (oth p0 p1 p2 p3 b))), β'⟩, .ok (.fresh [])) := by
    have h5 : mRng1 (mC (.int 5)) ⟨lw x0 x2 pg lad en x6 x7 (.dat (.tuple (oth p0 p1 p2 p3 b))), β⟩ = some (⟨lw x0 x2 pg lad en x6 x7 (.dat (.tuple (oth p0 p1 p2 p3 b))), β⟩, .ok ([0, 1, 2, 3, 4].map nt)) := rng1_ok (i := 5) rfl (by decide)
    exact comp_gen (s1 := ⟨lw x0 x2 pg lad en x6 x7 (.dat (.tuple (oth p0 p1 p2 p3 b))), β⟩) (s2 := ⟨lw x0 x2 pg lad en x6 x7 (.dat (.tuple (oth p0 p1 p2 p3 b))), β'⟩) h5 rfl e
  unfold m_l7
  rw [ifs_ok (isD (bin_ok (r1 := .fresh []) (r2 := .fresh []) (s2 := ⟨lw x0 x2 pg lad en x6 x7 (.dat (.tuple (oth p0 p1 p2 p3 b))), β'⟩) (d1 := .list []) (d2 := .list []) (res := .dat (.bool false)) hc rfl rfl rfl (by kernel_rfl)))]
  rfl
end
/-! the program of a lap -/
theorem l0_ok (x0 : Sl) (t : Nat) (x3 x4 x5 x6 x7 x8 : Sl) (β : Bag) (hb : gb β) : ∃ (β' : Bag) (p0 p1 p2 p3 : D) (b : B), Ok b 4 ∧ b.size ≤ 63 ∧ gb β' ∧ m_l0 ⟨[x0, .bag, .dat (nt t), x3, x4, x5, x6, x7, x8, .no], β⟩ = some (⟨[x0, .bag, .dat (nt t), .dat (.tuple (pgm p0 p1 p2 p3 b)), x4, x5, x6, x7, x8, .no], β'⟩, .ok .nx) := by
  have ht : mIs (mBin cGt (mVar 2) (mC (.int 0))) ⟨[x0, .bag, .dat (nt t), x3, x4, x5, x6, x7, x8, .no], β⟩ = some (⟨[x0, .bag, .dat (nt t), x3, x4, x5, x6, x7, x8, .no], β⟩, .ok (decide ((0 : Int) < (t : Int)))) := isD rfl
  by_cases q : 0 < t
  · obtain ⟨β', p, e, g, b, hp, ob, lb⟩ := program_ok β hb
    have hs : b.size ≤ 63 := by
      have h1 := size_le ob
      have h2 : b.len * mx 2 ≤ 3 * mx 2 := Nat.mul_le_mul_right _ lb
      have h3 : mx 2 = 21 := rfl
      omega
    refine ⟨β', .tuple (p.sg.map dSg), .tuple [.str "nil", .str "yes"], .tuple p.vs, .tuple p.ins, b, ok_mono ob (by omega), hs, g, ?_⟩
    have ep : dP p = .tuple (pgm (.tuple (p.sg.map dSg)) (.tuple [.str "nil", .str "yes"]) (.tuple p.vs) (.tuple p.ins) b) := by unfold dP; rw [hp]
    rw [ep] at e
    refine set_ok (s' := ⟨[x0, .bag, .dat (nt t), x3, x4, x5, x6, x7, x8, .no], β'⟩) ((if_ok ht).trans ?_)
    (rw [decide_eq_true (by omega)])
    exact callD (ρ := [x0, .bag, .dat (nt t), x3, x4, x5, x6, x7, x8, .no]) (as := [.bag, .dat (.int 3)]) rfl e
  · refine ⟨β, .tuple [], .tuple [.str "nil"], .tuple [], .tuple [], .nil, trivial, by rw [B.size]; omega, hb, ?_⟩
    refine set_ok (s' := ⟨[x0, .bag, .dat (nt t), x3, x4, x5, x6, x7, x8, .no], β⟩) ((if_ok ht).trans ?_)
    (rw [decide_eq_false (by omega)])
    rfl
theorem lap_ok (x0 : Sl) (t : Nat) (x3 x4 x5 x6 x7 x8 : Sl) (β : Bag) (hb : gb β) : ∃ (β' : Bag) (y3 y4 y5 y6 y7 y8 : Sl), gb β' ∧ m_lap ⟨[x0, .bag, .dat (nt t), x3, x4, x5, x6, x7, x8, .no], β⟩ = some (⟨[x0, .bag, .dat (nt t), y3, y4, y5, y6, y7, y8, .no], β'⟩, .ok .nx) := by
  obtain ⟨β0, p0, p1, p2, p3, b, ok, sb, g0, e0⟩ := l0_ok x0 t x3 x4 x5 x6 x7 x8 β hb
  have e1 := l1_ok (p0 := p0) (p1 := p1) (p2 := p2) (p3 := p3) (x0 := x0) (x2 := .dat (nt t)) (x4 := x4) (x5 := x5) (x6 := x6) (x7 := x7) (x8 := x8) ok sb β0
  obtain ⟨β2, e2, c2⟩ := l2_ok (p0 := p0) (p1 := p1) (p2 := p2) (p3 := p3) (x0 := x0) (x2 := .dat (nt t)) (x6 := x6) (x7 := x7) (x8 := x8) ok sb β0 (dicOf (lstO b))
  obtain ⟨β3, y6, e3, c3⟩ := l3_ok (p0 := p0) (p1 := p1) (p2 := p2) (p3 := p3) (x0 := x0) (x2 := .dat (nt t)) (x6 := x6) (x7 := x7) (x8 := x8) ok sb β2
  obtain ⟨β4, y7, e4, c4⟩ := l4_ok (p0 := p0) (p1 := p1) (p2 := p2) (p3 := p3) (x0 := x0) (x2 := .dat (nt t)) (x6 := y6) (x7 := x7) (x8 := x8) ok sb β3 (dicOf (lstO b))
  obtain ⟨β5, e5, c5⟩ := l5_ok (p0 := p0) (p1 := p1) (p2 := p2) (p3 := p3) (x0 := x0) (x2 := .dat (nt t)) (x6 := y6) (x7 := y7) (x8 := x8) ok sb β4 (dicOf (lstO b))
  have e6 := l6_ok (p0 := p0) (p1 := p1) (p2 := p2) (p3 := p3) (b := b) (x0 := x0) (x2 := .dat (nt t)) (x6 := y6) (x7 := y7) (x8 := x8) β5 (dicOf (lstO b)) b.size
  obtain ⟨β7, e7, c7⟩ := l7_ok (p0 := p0) (p1 := p1) (p2 := p2) (p3 := p3) (b := b) (x0 := x0) (x2 := .dat (nt t)) (x6 := y6) (x7 := y7) β5 (.tuple (pgm p0 p1 p2 p3 b)) (dicOf (lstO b)) b.size
  refine ⟨β7, .dat (.tuple (pgm p0 p1 p2 p3 b)), .dat (dicOf (lstO b)), .dat (nt b.size), y6, y7, .dat (.tuple (oth p0 p1 p2 p3 b)), ?_, ?_⟩
  · unfold gb at g0 ⊢
    rw [c7, c5, c4, c3, c2]
    exact g0
  · unfold m_lap
    rw [then_ok e0, then_ok e1, then_ok e2, then_ok e3, then_ok e4, then_ok e5, then_ok e6]
    exact e7
theorem laps_ok (x0 : Sl) : ∀ (ts : List Nat) (x2 x3 x4 x5 x6 x7 x8 : Sl) (β : Bag), gb β → ∃ (β' : Bag) (y2 y3 y4 y5 y6 y7 y8 : Sl), loopF (Tg.put (.nm 2)) m_lap (ts.map nt) ⟨[x0, .bag, x2, x3, x4, x5, x6, x7, x8, .no], β⟩ = some (⟨[x0, .bag, y2, y3, y4, y5, y6, y7, y8, .no], β'⟩, .ok .nx)
  | [], x2, x3, x4, x5, x6, x7, x8, β, _ => ⟨β, x2, x3, x4, x5, x6, x7, x8, rfl⟩
  | t :: ts, x2, x3, x4, x5, x6, x7, x8, β, hb => by
    obtain ⟨β1, z3, z4, z5, z6, z7, z8, g1, e1⟩ := lap_ok x0 t x3 x4 x5 x6 x7 x8 β hb
    obtain ⟨β2, y2, y3, y4, y5, y6, y7, y8, e2⟩ := laps_ok x0 ts (.dat (nt t)) z3 z4 z5 z6 z7 z8 β1 g1
    refine ⟨β2, y2, y3, y4, y5, y6, y7, y8, ?_⟩
    rw [List.map_cons, loopF]
    exact (bind_ok (show Tg.put (.nm 2) (nt t) _ = some (⟨[x0, .bag, .dat (nt t), x3, x4, x5, x6, x7, x8, .no], β⟩, .ok ()) from rfl)).trans ((bind_ok e1).trans e2)
theorem abs_comp (cs : List Int) : ∀ (acc : List D) (β : Bag) (x0 : Sl), acc.length + cs.length ≤ 63 →
    loopC [1] (Tg.put (.nm 1)) mYes (mUn dAbs (mVar 1)) (cs.map PyData.int) acc ⟨[x0, .no], β⟩ = some (⟨[x0, .no], β⟩, .ok (acc ++ cs.map fun c => .int (if c < 0 then -c else c))) := by
  induction cs with
  | nil => intro acc β x0 h; rw [List.map_nil, List.map_nil, List.append_nil]; rfl
  | cons c cs ih =>
    intro acc β x0 h
    rw [List.length_cons] at h
    have e : acc ++ (c :: cs).map (fun c => PyData.int (if c < 0 then -c else c)) = (acc ++ [.int (if c < 0 then -c else c)]) ++ cs.map fun c => .int (if c < 0 then -c else c) := by simp
    rw [e]
    have ih' := ih (acc ++ [.int (if c < 0 then -c else c)]) β x0 (by rw [List.length_append]; simp; omega)
    rw [← ih']
    have hl : acc.length < sizeLine := by rw [sizeLine_eq]; omega
    show (if acc.length < sizeLine then loopC [1] (Tg.put (.nm 1)) mYes (mUn dAbs (mVar 1)) (cs.map PyData.int) (acc ++ [.int (if c < 0 then -c else c)]) ⟨[x0, .no], β⟩ else none) = _
    rw [if_pos hl]
theorem bag_ok (ns : List Int) : ∃ cs : List Int, cs.length ≤ 63 ∧ m_bag ⟨begin N_law.length [.dat (.list (ns.map .int))], ⟨0, 0, 0, [], []⟩⟩ = some (⟨begin N_law.length [.dat (.list (ns.map .int))], ⟨0, 0, 0, [], []⟩⟩, .ok (.fresh [.int 0, .int 1234567891, .int 0, .list (cs.map .int)])) := by
  have hcut : cutD (ns.map PyData.int) none (some 63) = (ns.take 63).map PyData.int := by
    unfold cutD
    rw [List.length_map]
    show ((ns.map PyData.int).drop 0).take (min 63 ns.length - 0) = _
    rw [List.drop_zero, Nat.sub_zero, ← List.map_take]
    congr 1
    rw [Nat.min_def]
    split
    · rfl
    · rw [List.take_of_length_le (Nat.le_refl _), List.take_of_length_le (by omega)]
  refine ⟨(ns.take 63).map fun c => if c < 0 then -c else c, by rw [List.length_map, List.length_take]; omega, ?_⟩
  have hF : F_law_bag ⟨0, 0, 0, [], []⟩ [.dat (.list (ns.map .int))] = some (⟨0, 0, 0, [], []⟩, .ok (.fresh [.int 0, .int 1234567891, .int 0, .list (((ns.take 63).map fun c => if c < 0 then -c else c).map .int)])) := by
    have hc := abs_comp (ns.take 63) [] ⟨0, 0, 0, [], []⟩ (.dat (.list (ns.map .int))) (by rw [List.length_take, List.length_nil]; omega)
    have hseq : mSeq (mSl (mVar 0) none (some (mC (.int 63)))) ⟨[.dat (.list (ns.map .int)), .no], ⟨0, 0, 0, [], []⟩⟩ = some (⟨[.dat (.list (ns.map .int)), .no], ⟨0, 0, 0, [], []⟩⟩, .ok ((ns.take 63).map PyData.int)) := by
      show some (_, Except.ok (cutD (ns.map PyData.int) none (some 63))) = _
      rw [hcut]
    have hcomp : mComp [1] (mSeq (mSl (mVar 0) none (some (mC (.int 63))))) (.nm 1) mYes (mUn dAbs (mVar 1)) ⟨[.dat (.list (ns.map .int)), .no], ⟨0, 0, 0, [], []⟩⟩ = some (⟨[.dat (.list (ns.map .int)), .no], ⟨0, 0, 0, [], []⟩⟩, .ok (.fresh ((ns.take 63).map fun c => PyData.int (if c < 0 then -c else c)))) := by
      refine (bind_ok hseq).trans ?_
      show (M.bind (loopC [1] (Tg.put (.nm 1)) mYes (mUn dAbs (mVar 1)) ((ns.take 63).map PyData.int) []) fun acc => fun s' => some (({ s' with ρ := backS [.dat (.list (ns.map .int)), .no] s'.ρ [1] } : S), Except.ok (Rv.fresh acc))) ⟨[.dat (.list (ns.map .int)), .no], ⟨0, 0, 0, [], []⟩⟩ = _
      refine (bind_ok hc).trans ?_
      rw [List.nil_append]
      rfl
    have hm : m_law_bag ⟨[.dat (.list (ns.map .int)), .no], ⟨0, 0, 0, [], []⟩⟩ = some (⟨[.dat (.list (ns.map .int)), .no], ⟨0, 0, 0, [], []⟩⟩, .ok (.rt (.fresh [.int 0, .int 1234567891, .int 0, .list ((ns.take 63).map fun c => PyData.int (if c < 0 then -c else c))]))) := by
      unfold m_law_bag
      refine ret_ok ?_
      have h1 : mArgs [mC (.int 0), mC (.int 1234567891), mC (.int 0), mComp [1] (mSeq (mSl (mVar 0) none (some (mC (.int 63))))) (.nm 1) mYes (mUn dAbs (mVar 1))] ⟨[.dat (.list (ns.map .int)), .no], ⟨0, 0, 0, [], []⟩⟩ =
          some (⟨[.dat (.list (ns.map .int)), .no], ⟨0, 0, 0, [], []⟩⟩, .ok [.dat (.int 0), .dat (.int 1234567891), .dat (.int 0), .dat (.list ((ns.take 63).map fun c => PyData.int (if c < 0 then -c else c)))]) := by
        have h2 : mArgs [mComp [1] (mSeq (mSl (mVar 0) none (some (mC (.int 63))))) (.nm 1) mYes (mUn dAbs (mVar 1))] ⟨[.dat (.list (ns.map .int)), .no], ⟨0, 0, 0, [], []⟩⟩ =
            some (⟨[.dat (.list (ns.map .int)), .no], ⟨0, 0, 0, [], []⟩⟩, .ok [.dat (.list ((ns.take 63).map fun c => PyData.int (if c < 0 then -c else c)))]) := (bind_ok hcomp).trans rfl
        refine (bind_ok (show mC (.int 0) _ = some (_, .ok (.dat (.int 0))) from rfl)).trans ?_
        refine (bind_ok (show retainA (.dat (.int 0)) _ = some (_, .ok (.dat (.int 0))) from rfl)).trans ?_
        refine (bind_ok (a := [.dat (.int 1234567891), .dat (.int 0), .dat (.list ((ns.take 63).map fun c => PyData.int (if c < 0 then -c else c)))]) ?_).trans rfl
        refine (bind_ok (show mC (.int 1234567891) _ = some (_, .ok (.dat (.int 1234567891))) from rfl)).trans ?_
        refine (bind_ok (show retainA (.dat (.int 1234567891)) _ = some (_, .ok (.dat (.int 1234567891))) from rfl)).trans ?_
        refine (bind_ok (a := [.dat (.int 0), .dat (.list ((ns.take 63).map fun c => PyData.int (if c < 0 then -c else c)))]) ?_).trans rfl
        refine (bind_ok (show mC (.int 0) _ = some (_, .ok (.dat (.int 0))) from rfl)).trans ?_
        refine (bind_ok (show retainA (.dat (.int 0)) _ = some (_, .ok (.dat (.int 0))) from rfl)).trans ?_
        exact (bind_ok h2).trans rfl
      exact (bind_ok h1).trans rfl
    unfold F_law_bag runDef
    rw [show (⟨begin 2 [.dat (.list (ns.map .int))], ⟨0, 0, 0, [], []⟩⟩ : S) = ⟨[.dat (.list (ns.map .int)), .no], ⟨0, 0, 0, [], []⟩⟩ from rfl, hm, List.map_map]
    rfl
  show (match F_law_bag ⟨0, 0, 0, [], []⟩ [.dat (.list (ns.map .int))] with
    | none => none
    | some (β', .ok r) => some ((⟨begin N_law.length [.dat (.list (ns.map .int))], β'⟩ : S), Except.ok r.rv)
    | some (β', .error x) => some (⟨begin N_law.length [.dat (.list (ns.map .int))], β'⟩, .error x)) = _
  rw [hF]
  rfl
theorem hf_law (ns : List Int) (hn : ns.length ≤ 63) : ∃ s b0 b1 b2 cs s2, m_bag ⟨begin N_law.length [.dat (.list (ns.map .int))], ⟨0, 0, 0, [], []⟩⟩ = some (s, .ok (.fresh [.int b0, .int b1, .int b2, .list (cs.map .int)])) ∧
    m_law ⟨s.ρ.set 1 .bag, ⟨b0, b1, b2, cs, s.β.os⟩⟩ = some (s2, .ok (.rt (.dat (.bool true)))) := by
  obtain ⟨cs, hc, e⟩ := bag_ok ns
  obtain ⟨β', y2, y3, y4, y5, y6, y7, y8, el⟩ := laps_ok (.dat (.list (ns.map .int))) [0, 1, 2, 3, 4, 5, 6, 7, 8] .no .no .no .no .no .no .no ⟨0, 1234567891, 0, cs, []⟩ hc
  refine ⟨_, 0, 1234567891, 0, cs, ⟨[.dat (.list (ns.map .int)), .bag, y2, y3, y4, y5, y6, y7, y8, .no], β'⟩, e, ?_⟩
  have hm : m_law = mThen (mFor (mRng1 (mC (.int 9))) (.nm 2) m_lap) (mRet (mC (.bool true))) := rfl
  rw [hm]
  refine (then_ok (s' := ⟨[.dat (.list (ns.map .int)), .bag, y2, y3, y4, y5, y6, y7, y8, .no], β'⟩) ?_).trans rfl
  unfold mFor
  refine (bind_ok (show mRng1 (mC (.int 9)) _ = some (⟨[.dat (.list (ns.map .int)), .bag, .no, .no, .no, .no, .no, .no, .no, .no], ⟨0, 1234567891, 0, cs, []⟩⟩, .ok ([0, 1, 2, 3, 4, 5, 6, 7, 8].map nt)) from rfl)).trans el
end Pu
namespace Pu
open PySem PySem.Spec PyProof.Rows L2
/-! ### the head: what it leaves, the run -/
def mkD (p : Str × Option Str) (x q : Str) (st : Stmt) : He.DefD := ⟨p, x, q, defArgs st, defBody st, defScope st, [], []⟩
def fnT : List He.DefD := [mkD ("_law_bag", none) "_law_bag" "_law_bag" s_law_bag, mkD ("_law_take", none) "_law_take" "_law_take" s_law_take, mkD ("_law_some", none) "_law_some" "_law_some" s_law_some, mkD ("_law_body", none) "_law_body" "_law_body" s_law_body, mkD ("_law_maybe_body", none) "_law_maybe_body" "_law_maybe_body" s_law_maybe_body, mkD ("_law_program", none) "_law_program" "_law_program" s_law_program, mkD ("_law_bodies", none) "_law_bodies" "_law_bodies" s_law_bodies, mkD ("_law_size", none) "_law_size" "_law_size" s_law_size, mkD ("_law_laid", none) "_law_laid" "_law_laid" s_law_laid, mkD ("_law_places", none) "_law_places" "_law_places" s_law_places, mkD ("_law_alike", none) "_law_alike" "_law_alike" s_law_alike, mkD ("bodies_of", none) "bodies_of" "bodies_of" s_bodies_of, mkD ("nodes_of", none) "nodes_of" "nodes_of" s_nodes_of, mkD ("Layout", some "inner") "inner" "Layout.inner" s_Layout_inner, mkD ("Layout", some "__init__") "__init__" "Layout.__init__" s_Layout_init, mkD ("asked", none) "asked" "asked" s_asked, mkD ("is_number", none) "is_number" "is_number" s_is_number, mkD ("is_index", none) "is_index" "is_index" s_is_index, mkD ("next_steps", none) "next_steps" "next_steps" s_next_steps, mkD ("end_place", none) "end_place" "end_place" s_end_place, mkD ("is_place", none) "is_place" "is_place" s_is_place, mkD ("first_place", none) "first_place" "first_place" s_first_place, mkD ("places", none) "places" "places" s_places, mkD ("_law_heard", none) "_law_heard" "_law_heard" s_law_heard, mkD ("_law_next", none) "_law_next" "_law_next" s_law_next, mkD ("law", none) "law" "law" s_law]
def faT : List He.Fa := [.glo "_law_bag", .glo "_law_take", .glo "_law_some", .glo "_law_body", .glo "_law_maybe_body", .glo "_law_program", .glo "_law_bodies", .glo "_law_size", .glo "_law_laid", .glo "_law_places", .glo "_law_alike", .glo "bodies_of", .glo "nodes_of", .glo "asked", .glo "is_number", .glo "is_index", .glo "next_steps", .glo "end_place", .glo "is_place", .glo "first_place", .glo "places", .glo "_law_heard", .glo "_law_next", .glo "law", .glo "Layout", .glo "Nothing", .glo "SHAPES", .free "sum", .free "dict", .free "enumerate", .free "all", .free "len", .free "int", .free "abs", .free "tuple", .free "list", .free "sorted", .free "repr", .free "max", .free "isinstance", .free "range", .free "zip", .free "set", .free "bool", .free "super", .cls "Layout", .mkr "Layout", .meth "Layout" "inner", .exc "Nothing", .exm "Nothing" "Nothing" true, .noat "Layout" "statements", .noat "Layout" "behind", .noat "Layout" "first"]
def tsT : List TabD := [("SHAPES", tab_SHAPES)]
abbrev rowT : PySem.W.OpenRow := PySem.W.OpenLaw.row PySem.Challenge.rw_heldterms_k03_places_and_what_comes_next
abbrev hkT : PySem.W.Hook := hookM prg.main.file 6 faT fnT [] tsT
def obT (s : PySem.W.SharedT) : AlM := obsM prg.main.file 6 faT fnT [] tsT (HandSHeadRun.getT s)
theorem obT_eq (s : PySem.W.SharedT) : obT s = hkT.obs s.abs := obsM_eq (HandSHeadRun.getT_eq s)
def looseT : List Str := ["_wall", "HeldError", "Nothing", "SHAPES", "is_number", "is_index", "bodies_of", "nodes_of", "Layout", "first_place", "end_place", "places", "is_place", "asked", "next_steps", "_law_bag", "_law_take", "_law_some", "_law_alike", "_law_program", "_law_body", "_law_maybe_body", "_law_bodies", "_law_size", "_law_laid", "_law_places", "_law_next", "_law_heard"]
theorem run0 (w : World) : HandSHeadRun.RunEq rowT (PySem.W.view rowT.prog [33]) hkT obT 4000 looseT (w.withFollow "special-get-raises" false) := by
  intro os
  kernel_rfl
theorem run1 (w : World) : HandSHeadRun.RunEq rowT (PySem.W.view rowT.prog [33]) hkT obT 4000 looseT (w.withFollow "special-get-raises" true) := by
  intro os
  kernel_rfl
theorem runT (w : World) : HandSHeadRun.RunEq rowT (PySem.W.view rowT.prog [33]) hkT obT 4000 looseT w := PySem.W.byRow2 "special-get-raises" (P := fun w => HandSHeadRun.RunEq rowT (PySem.W.view rowT.prog [33]) hkT obT 4000 looseT w) run0 run1 w
end Pu
namespace Pu
open PySem PySem.Spec PyProof.Rows L2
theorem mdT {w : World} {K : PySem.W.Frag} {h : Heap} {mg : Str → Option Value} (X : K.In h) (G : h.Ns mainGlobals mg) (c : obsP prg.main.file faT fnT [] K = valP fnT []) (ct : obsMK tsT K = valM tsT w) : ∃ M : Md w K mg, M.f_law = He.ga K "law" ∧ ∀ (s : Shared) (v : Value), BindsTo s M.fd_law ⟨[v], []⟩ [("script", v)] := by
  have D := saysD c
  obtain ⟨d0, F0⟩ := D.def_ 0 (d := mkD ("_law_bag", none) "_law_bag" "_law_bag" s_law_bag) rfl
  have F0 : FunD K "_law_bag" "_law_bag" (defArgs s_law_bag) (defBody s_law_bag) (defScope s_law_bag) [] [] (He.ga K "_law_bag") d0 := F0
  obtain ⟨d1, F1⟩ := D.def_ 1 (d := mkD ("_law_take", none) "_law_take" "_law_take" s_law_take) rfl
  have F1 : FunD K "_law_take" "_law_take" (defArgs s_law_take) (defBody s_law_take) (defScope s_law_take) [] [] (He.ga K "_law_take") d1 := F1
  obtain ⟨d2, F2⟩ := D.def_ 2 (d := mkD ("_law_some", none) "_law_some" "_law_some" s_law_some) rfl
  have F2 : FunD K "_law_some" "_law_some" (defArgs s_law_some) (defBody s_law_some) (defScope s_law_some) [] [] (He.ga K "_law_some") d2 := F2
  obtain ⟨d3, F3⟩ := D.def_ 3 (d := mkD ("_law_body", none) "_law_body" "_law_body" s_law_body) rfl
  have F3 : FunD K "_law_body" "_law_body" (defArgs s_law_body) (defBody s_law_body) (defScope s_law_body) [] [] (He.ga K "_law_body") d3 := F3
  obtain ⟨d4, F4⟩ := D.def_ 4 (d := mkD ("_law_maybe_body", none) "_law_maybe_body" "_law_maybe_body" s_law_maybe_body) rfl
  have F4 : FunD K "_law_maybe_body" "_law_maybe_body" (defArgs s_law_maybe_body) (defBody s_law_maybe_body) (defScope s_law_maybe_body) [] [] (He.ga K "_law_maybe_body") d4 := F4
  obtain ⟨d5, F5⟩ := D.def_ 5 (d := mkD ("_law_program", none) "_law_program" "_law_program" s_law_program) rfl
  have F5 : FunD K "_law_program" "_law_program" (defArgs s_law_program) (defBody s_law_program) (defScope s_law_program) [] [] (He.ga K "_law_program") d5 := F5
  obtain ⟨d6, F6⟩ := D.def_ 6 (d := mkD ("_law_bodies", none) "_law_bodies" "_law_bodies" s_law_bodies) rfl
  have F6 : FunD K "_law_bodies" "_law_bodies" (defArgs s_law_bodies) (defBody s_law_bodies) (defScope s_law_bodies) [] [] (He.ga K "_law_bodies") d6 := F6
  obtain ⟨d7, F7⟩ := D.def_ 7 (d := mkD ("_law_size", none) "_law_size" "_law_size" s_law_size) rfl
  have F7 : FunD K "_law_size" "_law_size" (defArgs s_law_size) (defBody s_law_size) (defScope s_law_size) [] [] (He.ga K "_law_size") d7 := F7
  obtain ⟨d8, F8⟩ := D.def_ 8 (d := mkD ("_law_laid", none) "_law_laid" "_law_laid" s_law_laid) rfl
  have F8 : FunD K "_law_laid" "_law_laid" (defArgs s_law_laid) (defBody s_law_laid) (defScope s_law_laid) [] [] (He.ga K "_law_laid") d8 := F8
  obtain ⟨d9, F9⟩ := D.def_ 9 (d := mkD ("_law_places", none) "_law_places" "_law_places" s_law_places) rfl
  have F9 : FunD K "_law_places" "_law_places" (defArgs s_law_places) (defBody s_law_places) (defScope s_law_places) [] [] (He.ga K "_law_places") d9 := F9
  obtain ⟨d10, F10⟩ := D.def_ 10 (d := mkD ("_law_alike", none) "_law_alike" "_law_alike" s_law_alike) rfl
  have F10 : FunD K "_law_alike" "_law_alike" (defArgs s_law_alike) (defBody s_law_alike) (defScope s_law_alike) [] [] (He.ga K "_law_alike") d10 := F10
  obtain ⟨d11, F11⟩ := D.def_ 11 (d := mkD ("bodies_of", none) "bodies_of" "bodies_of" s_bodies_of) rfl
  have F11 : FunD K "bodies_of" "bodies_of" (defArgs s_bodies_of) (defBody s_bodies_of) (defScope s_bodies_of) [] [] (He.ga K "bodies_of") d11 := F11
  obtain ⟨d12, F12⟩ := D.def_ 12 (d := mkD ("nodes_of", none) "nodes_of" "nodes_of" s_nodes_of) rfl
  have F12 : FunD K "nodes_of" "nodes_of" (defArgs s_nodes_of) (defBody s_nodes_of) (defScope s_nodes_of) [] [] (He.ga K "nodes_of") d12 := F12
  obtain ⟨d13, F13⟩ := D.def_ 13 (d := mkD ("Layout", some "inner") "inner" "Layout.inner" s_Layout_inner) rfl
  have F13 : FunD K "inner" "Layout.inner" (defArgs s_Layout_inner) (defBody s_Layout_inner) (defScope s_Layout_inner) [] [] (He.ma K (He.ga K "Layout") "inner") d13 := F13
  obtain ⟨d14, F14⟩ := D.def_ 14 (d := mkD ("Layout", some "__init__") "__init__" "Layout.__init__" s_Layout_init) rfl
  have F14 : FunD K "__init__" "Layout.__init__" (defArgs s_Layout_init) (defBody s_Layout_init) (defScope s_Layout_init) [] [] (He.ma K (He.ga K "Layout") "__init__") d14 := F14
  obtain ⟨d15, F15⟩ := D.def_ 15 (d := mkD ("asked", none) "asked" "asked" s_asked) rfl
  have F15 : FunD K "asked" "asked" (defArgs s_asked) (defBody s_asked) (defScope s_asked) [] [] (He.ga K "asked") d15 := F15
  obtain ⟨d16, F16⟩ := D.def_ 16 (d := mkD ("is_number", none) "is_number" "is_number" s_is_number) rfl
  have F16 : FunD K "is_number" "is_number" (defArgs s_is_number) (defBody s_is_number) (defScope s_is_number) [] [] (He.ga K "is_number") d16 := F16
  obtain ⟨d17, F17⟩ := D.def_ 17 (d := mkD ("is_index", none) "is_index" "is_index" s_is_index) rfl
  have F17 : FunD K "is_index" "is_index" (defArgs s_is_index) (defBody s_is_index) (defScope s_is_index) [] [] (He.ga K "is_index") d17 := F17
  obtain ⟨d18, F18⟩ := D.def_ 18 (d := mkD ("next_steps", none) "next_steps" "next_steps" s_next_steps) rfl
  have F18 : FunD K "next_steps" "next_steps" (defArgs s_next_steps) (defBody s_next_steps) (defScope s_next_steps) [] [] (He.ga K "next_steps") d18 := F18
  obtain ⟨d19, F19⟩ := D.def_ 19 (d := mkD ("end_place", none) "end_place" "end_place" s_end_place) rfl
  have F19 : FunD K "end_place" "end_place" (defArgs s_end_place) (defBody s_end_place) (defScope s_end_place) [] [] (He.ga K "end_place") d19 := F19
  obtain ⟨d20, F20⟩ := D.def_ 20 (d := mkD ("is_place", none) "is_place" "is_place" s_is_place) rfl
  have F20 : FunD K "is_place" "is_place" (defArgs s_is_place) (defBody s_is_place) (defScope s_is_place) [] [] (He.ga K "is_place") d20 := F20
  obtain ⟨d21, F21⟩ := D.def_ 21 (d := mkD ("first_place", none) "first_place" "first_place" s_first_place) rfl
  have F21 : FunD K "first_place" "first_place" (defArgs s_first_place) (defBody s_first_place) (defScope s_first_place) [] [] (He.ga K "first_place") d21 := F21
  obtain ⟨d22, F22⟩ := D.def_ 22 (d := mkD ("places", none) "places" "places" s_places) rfl
  have F22 : FunD K "places" "places" (defArgs s_places) (defBody s_places) (defScope s_places) [] [] (He.ga K "places") d22 := F22
  obtain ⟨d23, F23⟩ := D.def_ 23 (d := mkD ("_law_heard", none) "_law_heard" "_law_heard" s_law_heard) rfl
  have F23 : FunD K "_law_heard" "_law_heard" (defArgs s_law_heard) (defBody s_law_heard) (defScope s_law_heard) [] [] (He.ga K "_law_heard") d23 := F23
  obtain ⟨d24, F24⟩ := D.def_ 24 (d := mkD ("_law_next", none) "_law_next" "_law_next" s_law_next) rfl
  have F24 : FunD K "_law_next" "_law_next" (defArgs s_law_next) (defBody s_law_next) (defScope s_law_next) [] [] (He.ga K "_law_next") d24 := F24
  obtain ⟨d25, F25⟩ := D.def_ 25 (d := mkD ("law", none) "law" "law" s_law) rfl
  have F25 : FunD K "law" "law" (defArgs s_law) (defBody s_law) (defScope s_law) [] [] (He.ga K "law") d25 := F25
  refine ⟨{
    f_law_bag := He.ga K "_law_bag"
    fd_law_bag := d0
    U_law_bag := funOfQ F0
    b_law_bag := FunD.bindsN F0 fun _ _ _ _ _ _ us hl => match us, hl with | [_], _ => rfl
    g_law_bag := He.glo_ok X G (D.fact 0 (f := .glo "_law_bag") rfl)
    k_law_bag := F0.kp
    f_law_take := He.ga K "_law_take"
    fd_law_take := d1
    U_law_take := funOfQ F1
    b_law_take := FunD.bindsN F1 fun _ _ _ _ _ _ us hl => match us, hl with | [_, _], _ => rfl
    g_law_take := He.glo_ok X G (D.fact 1 (f := .glo "_law_take") rfl)
    k_law_take := F1.kp
    f_law_some := He.ga K "_law_some"
    fd_law_some := d2
    U_law_some := funOfQ F2
    b_law_some := FunD.bindsN F2 fun _ _ _ _ _ _ us hl => match us, hl with | [_, _], _ => rfl
    g_law_some := He.glo_ok X G (D.fact 2 (f := .glo "_law_some") rfl)
    k_law_some := F2.kp
    f_law_body := He.ga K "_law_body"
    fd_law_body := d3
    U_law_body := funOfQ F3
    b_law_body := FunD.bindsN F3 fun _ _ _ _ _ _ us hl => match us, hl with | [_, _, _, _], _ => rfl
    g_law_body := He.glo_ok X G (D.fact 3 (f := .glo "_law_body") rfl)
    k_law_body := F3.kp
    f_law_maybe_body := He.ga K "_law_maybe_body"
    fd_law_maybe_body := d4
    U_law_maybe_body := funOfQ F4
    b_law_maybe_body := FunD.bindsN F4 fun _ _ _ _ _ _ us hl => match us, hl with | [_, _, _], _ => rfl
    g_law_maybe_body := He.glo_ok X G (D.fact 4 (f := .glo "_law_maybe_body") rfl)
    k_law_maybe_body := F4.kp
    f_law_program := He.ga K "_law_program"
    fd_law_program := d5
    U_law_program := funOfQ F5
    b_law_program := FunD.bindsN F5 fun _ _ _ _ _ _ us hl => match us, hl with | [_, _], _ => rfl
    g_law_program := He.glo_ok X G (D.fact 5 (f := .glo "_law_program") rfl)
    k_law_program := F5.kp
    f_law_bodies := He.ga K "_law_bodies"
    fd_law_bodies := d6
    U_law_bodies := funOfQ F6
    b_law_bodies := FunD.bindsN F6 fun _ _ _ _ _ _ us hl => match us, hl with | [_], _ => rfl
    g_law_bodies := He.glo_ok X G (D.fact 6 (f := .glo "_law_bodies") rfl)
    k_law_bodies := F6.kp
    f_law_size := He.ga K "_law_size"
    fd_law_size := d7
    U_law_size := funOfQ F7
    b_law_size := FunD.bindsN F7 fun _ _ _ _ _ _ us hl => match us, hl with | [_], _ => rfl
    g_law_size := He.glo_ok X G (D.fact 7 (f := .glo "_law_size") rfl)
    k_law_size := F7.kp
    f_law_laid := He.ga K "_law_laid"
    fd_law_laid := d8
    U_law_laid := funOfQ F8
    b_law_laid := FunD.bindsN F8 fun _ _ _ _ _ _ us hl => match us, hl with | [_, _, _], _ => rfl
    g_law_laid := He.glo_ok X G (D.fact 8 (f := .glo "_law_laid") rfl)
    k_law_laid := F8.kp
    f_law_places := He.ga K "_law_places"
    fd_law_places := d9
    U_law_places := funOfQ F9
    b_law_places := FunD.bindsN F9 fun _ _ _ _ _ _ us hl => match us, hl with | [_], _ => rfl
    g_law_places := He.glo_ok X G (D.fact 9 (f := .glo "_law_places") rfl)
    k_law_places := F9.kp
    f_law_alike := He.ga K "_law_alike"
    fd_law_alike := d10
    U_law_alike := funOfQ F10
    b_law_alike := FunD.bindsN F10 fun _ _ _ _ _ _ us hl => match us, hl with | [_, _], _ => rfl
    g_law_alike := He.glo_ok X G (D.fact 10 (f := .glo "_law_alike") rfl)
    k_law_alike := F10.kp
    f_bodies_of := He.ga K "bodies_of"
    fd_bodies_of := d11
    U_bodies_of := funOfQ F11
    b_bodies_of := FunD.bindsN F11 fun _ _ _ _ _ _ us hl => match us, hl with | [_], _ => rfl
    g_bodies_of := He.glo_ok X G (D.fact 11 (f := .glo "bodies_of") rfl)
    k_bodies_of := F11.kp
    f_nodes_of := He.ga K "nodes_of"
    fd_nodes_of := d12
    U_nodes_of := funOfQ F12
    b_nodes_of := FunD.bindsN F12 fun _ _ _ _ _ _ us hl => match us, hl with | [_], _ => rfl
    g_nodes_of := He.glo_ok X G (D.fact 12 (f := .glo "nodes_of") rfl)
    k_nodes_of := F12.kp
    f_Layout_inner := He.ma K (He.ga K "Layout") "inner"
    fd_Layout_inner := d13
    U_Layout_inner := funOfQ F13
    b_Layout_inner := FunD.bindsN F13 fun _ _ _ _ _ _ us hl => match us, hl with | [_, _, _], _ => rfl
    f_Layout_init := He.ma K (He.ga K "Layout") "__init__"
    fd_Layout_init := d14
    U_Layout_init := funOfQ F14
    b_Layout_init := FunD.bindsN F14 fun _ _ _ _ _ _ us hl => match us, hl with | [_, _], _ => rfl
    f_asked := He.ga K "asked"
    fd_asked := d15
    U_asked := funOfQ F15
    b_asked := FunD.bindsN F15 fun _ _ _ _ _ _ us hl => match us, hl with | [_, _, _], _ => rfl
    g_asked := He.glo_ok X G (D.fact 13 (f := .glo "asked") rfl)
    k_asked := F15.kp
    f_is_number := He.ga K "is_number"
    fd_is_number := d16
    U_is_number := funOfQ F16
    b_is_number := FunD.bindsN F16 fun _ _ _ _ _ _ us hl => match us, hl with | [_], _ => rfl
    g_is_number := He.glo_ok X G (D.fact 14 (f := .glo "is_number") rfl)
    k_is_number := F16.kp
    f_is_index := He.ga K "is_index"
    fd_is_index := d17
    U_is_index := funOfQ F17
    b_is_index := FunD.bindsN F17 fun _ _ _ _ _ _ us hl => match us, hl with | [_], _ => rfl
    g_is_index := He.glo_ok X G (D.fact 15 (f := .glo "is_index") rfl)
    k_is_index := F17.kp
    f_next_steps := He.ga K "next_steps"
    fd_next_steps := d18
    U_next_steps := funOfQ F18
    b_next_steps := FunD.bindsN F18 fun _ _ _ _ _ _ us hl => match us, hl with | [_, _], _ => rfl
    g_next_steps := He.glo_ok X G (D.fact 16 (f := .glo "next_steps") rfl)
    k_next_steps := F18.kp
    f_end_place := He.ga K "end_place"
    fd_end_place := d19
    U_end_place := funOfQ F19
    b_end_place := FunD.bindsN F19 fun _ _ _ _ _ _ us hl => match us, hl with | [_], _ => rfl
    g_end_place := He.glo_ok X G (D.fact 17 (f := .glo "end_place") rfl)
    k_end_place := F19.kp
    f_is_place := He.ga K "is_place"
    fd_is_place := d20
    U_is_place := funOfQ F20
    b_is_place := FunD.bindsN F20 fun _ _ _ _ _ _ us hl => match us, hl with | [_, _], _ => rfl
    g_is_place := He.glo_ok X G (D.fact 18 (f := .glo "is_place") rfl)
    k_is_place := F20.kp
    f_first_place := He.ga K "first_place"
    fd_first_place := d21
    U_first_place := funOfQ F21
    b_first_place := FunD.bindsN F21 fun _ _ _ _ _ _ us hl => match us, hl with | [_], _ => rfl
    g_first_place := He.glo_ok X G (D.fact 19 (f := .glo "first_place") rfl)
    k_first_place := F21.kp
    f_places := He.ga K "places"
    fd_places := d22
    U_places := funOfQ F22
    b_places := FunD.bindsN F22 fun _ _ _ _ _ _ us hl => match us, hl with | [_], _ => rfl
    g_places := He.glo_ok X G (D.fact 20 (f := .glo "places") rfl)
    k_places := F22.kp
    f_law_heard := He.ga K "_law_heard"
    fd_law_heard := d23
    U_law_heard := funOfQ F23
    b_law_heard := FunD.bindsN F23 fun _ _ _ _ _ _ us hl => match us, hl with | [_, _, _], _ => rfl
    g_law_heard := He.glo_ok X G (D.fact 21 (f := .glo "_law_heard") rfl)
    k_law_heard := F23.kp
    f_law_next := He.ga K "_law_next"
    fd_law_next := d24
    U_law_next := funOfQ F24
    b_law_next := FunD.bindsN F24 fun _ _ _ _ _ _ us hl => match us, hl with | [_, _], _ => rfl
    g_law_next := He.glo_ok X G (D.fact 22 (f := .glo "_law_next") rfl)
    k_law_next := F24.kp
    f_law := He.ga K "law"
    fd_law := d25
    U_law := funOfQ F25
    b_law := FunD.bindsN F25 fun _ _ _ _ _ _ us hl => match us, hl with | [_], _ => rfl
    g_law := He.glo_ok X G (D.fact 23 (f := .glo "law") rfl)
    k_law := F25.kp
    M_Layout := He.mkr_ok (D.fact 46 (f := .mkr "Layout") rfl)
    m_Layout_inner := He.meth_ok (D.fact 47 (f := .meth "Layout" "inner") rfl)
    L_Layout := He.cls_ok (D.fact 45 (f := .cls "Layout") rfl)
    g_Layout := He.glo_ok X G (D.fact 24 (f := .glo "Layout") rfl)
    z_Layout_statements := He.noat_ok (D.fact 50 (f := .noat "Layout" "statements") rfl)
    z_Layout_behind := He.noat_ok (D.fact 51 (f := .noat "Layout" "behind") rfl)
    z_Layout_first := He.noat_ok (D.fact 52 (f := .noat "Layout" "first") rfl)
    T_SHAPES := saysTab (t := ("SHAPES", tab_SHAPES)) ct 0 rfl (He.glo_ok X G (D.fact 26 (f := .glo "SHAPES") rfl))
    g_Nothing := He.glo_ok X G (D.fact 25 (f := .glo "Nothing") rfl)
    q_Nothing := (He.exc_ok (D.fact 48 (f := .exc "Nothing") rfl)).1
    kq_Nothing := (He.exc_ok (D.fact 48 (f := .exc "Nothing") rfl)).2.1
    s_Nothing := (He.exc_ok (D.fact 48 (f := .exc "Nothing") rfl)).2.2.1
    ty_Nothing := (He.exc_ok (D.fact 48 (f := .exc "Nothing") rfl)).2.2.2
    e_Nothing := He.exm_ok (D.fact 49 (f := .exm "Nothing" "Nothing" true) rfl)
    n_sum := He.free_ok X G (D.fact 27 (f := .free "sum") rfl)
    n_dict := He.free_ok X G (D.fact 28 (f := .free "dict") rfl)
    n_enumerate := He.free_ok X G (D.fact 29 (f := .free "enumerate") rfl)
    n_all := He.free_ok X G (D.fact 30 (f := .free "all") rfl)
    n_len := He.free_ok X G (D.fact 31 (f := .free "len") rfl)
    n_int := He.free_ok X G (D.fact 32 (f := .free "int") rfl)
    n_abs := He.free_ok X G (D.fact 33 (f := .free "abs") rfl)
    n_tuple := He.free_ok X G (D.fact 34 (f := .free "tuple") rfl)
    n_list := He.free_ok X G (D.fact 35 (f := .free "list") rfl)
    n_sorted := He.free_ok X G (D.fact 36 (f := .free "sorted") rfl)
    n_repr := He.free_ok X G (D.fact 37 (f := .free "repr") rfl)
    n_max := He.free_ok X G (D.fact 38 (f := .free "max") rfl)
    n_isinstance := He.free_ok X G (D.fact 39 (f := .free "isinstance") rfl)
    n_range := He.free_ok X G (D.fact 40 (f := .free "range") rfl)
    n_zip := He.free_ok X G (D.fact 41 (f := .free "zip") rfl)
    n_set := He.free_ok X G (D.fact 42 (f := .free "set") rfl)
    n_bool := He.free_ok X G (D.fact 43 (f := .free "bool") rfl)
    n_super := He.free_ok X G (D.fact 44 (f := .free "super") rfl) }, rfl, fun s v => ?_⟩
  exact FunD.bindsA (ps := ["script"]) F25 (fun _ _ _ _ _ _ us hl => match us, hl with | [_], _ => rfl) s [v] rfl
/-- the row, from the plain law -/
theorem row_of (hf : ∀ ns : List Int, ns.length ≤ 63 → ∃ s b0 b1 b2 cs s2, m_bag ⟨begin N_law.length [.dat (.list (ns.map .int))], ⟨0, 0, 0, [], []⟩⟩ = some (s, .ok (.fresh [.int b0, .int b1, .int b2, .list (cs.map .int)])) ∧
      m_law ⟨s.ρ.set 1 .bag, ⟨b0, b1, b2, cs, s.β.os⟩⟩ = some (s2, .ok (.rt (.dat (.bool true))))) : PySem.Challenge.rw_heldterms_k03_places_and_what_comes_next.Holds := by
  w_on; o_law
  refine HandSHeadRun.head_any (r := PySem.W.OpenLaw.row PySem.Challenge.rw_heldterms_k03_places_and_what_comes_next) (q := PySem.W.view (PySem.W.OpenLaw.row PySem.Challenge.rw_heldterms_k03_places_and_what_comes_next).prog [33]) (H := hkT) (ob := obT) (M := 4000) (loose := looseT) (d := HandSHeadRun.topDef (PySem.W.OpenLaw.row PySem.Challenge.rw_heldterms_k03_places_and_what_comes_next).prog 33) (kwd := []) obT_eq
    (by kernel_rfl) (fun s => by kernel_rfl) runT (by kernel_rfl) (by kernel_rfl) (by kernel_rfl) (by rfl) (by first | assumption | decide +kernel) (by decide +kernel) ⟨rfl, rfl, rfl, rfl, rfl, by decide +kernel⟩ ?hw ?hc
  case hw => w_witness2
  case hc =>
    refine walkG (l := PySem.Challenge.rw_heldterms_k03_places_and_what_comes_next) (n := 63) (k := 15) (x := "script") rfl (by decide) (by kernel_rfl) ⟨rfl, by decide, by decide⟩ ?F
    intro w mg fa h Y G hmg0
    obtain ⟨K, KX, ⟨c, ct⟩, TF⟩ := Y
    have hmg : mg ("law"
            : PySem.Str) = some (.ref fa) := by
      have e : (HandSHeadRun.topDef (PySem.W.OpenLaw.row PySem.Challenge.rw_heldterms_k03_places_and_what_comes_next).prog 33).name = ("law" : PySem.Str) := by kernel_rfl
      rw [← e]
      exact hmg0
    obtain ⟨M, hM, hb⟩ := mdT KX G c ct
    have e := hmg.symm.trans M.g_law
    cases e
    exact ⟨K, M.fd_law, KX, TF, hb, fun base _ _ TB => d_law M hf⟩
end Pu
theorem PySem.Challenge.cw_heldterms_k03_places_and_what_comes_next_holds : PySem.Challenge.rw_heldterms_k03_places_and_what_comes_next.Holds :=
  Pu.row_of Pu.hf_law
