import PyProof.Rows.All
import Wide.All
import OpenK.AllK
import Wide.FinOn
import HandS.ForMost
import HandS.ForExc
import HandS.Evl
import HandS.Walk
import HandS.Conv
import HandS.IsInst
import HandS.Defaults
import HandS.HeadHook1
import HandS.HeadHook2
import HandS.Wide
import KE.KOwnIter
import HandS.OwnIter
import HandS.IterVal
import HandS.Head0
import HandS.Head1
import HandS.Head2
import HandS.HeadEnd
import HandS.ExcIs
import HandS.Text
import HandS.TupAny
import HandS.Style
import HandS.Property
import HandS.Iter
import HandS.More
import HandS.Small
import KE.KTupTruth
import PyProof.Rows.Range3
import KE.GoesEnum
import KE.KExcSuper
import KE.KSuper
import HandS.Nested
import HandS.FStr
import HandS.ExcField
import KE.KExcIs
import HandS.ExcInit
import HandS.SortRule
import HandS.Gcd
import HandS.Head3
import HandS.Flt
import HandS.SetFor
import HandS.Strs
import HandS.MakeKwOnly
import HandS.SortInts
import PySem.Challenge.RW_crossinglights_k48_phase_kept
set_option Elab.async false
set_option linter.all false
set_option maxRecDepth 100000
set_option maxHeartbeats 4000000
/-! DLa: data, stores, what a heap holds of them. -/
namespace DL
open PySem PySem.Spec PyProof.Rows L2 Evl
open Classical

/-- a datum: what an object that never changes again is worth -/
inductive D where
  | non | bl (b : Bool) | int (i : Int) | str (s : Str) | ty (n : String)
  | tup (ds : List D) | lst (ds : List D)
  | ins (C : Str) (ns : List Str) (ds : List D)
  | cell (i : Nat)
  | raw (v : V)
  | rl (ds : List D)
  | cls (C : Str)
  | xo (a : Addr) (dd : Option Addr) (C : Str) (ns : List Str) (ds : List D)
/-- what a cell of the store holds: a list, an instance in the making, nothing any more -/
inductive MO where
  | ml (ds : List D)
  | mi (C : Str) (fs : List (Str × D))
  | dead
  | mx (tp : Bool) (ds : List D)

mutual
def rep (K : PySem.W.Frag) (H : Hp) : D → V → Prop
  | .non, v => v = .non
  | .bl b, v => v = .bl b
  | .int i, v => v = .int i
  | .str s, v => v = .str s
  | .ty n, v => v = .ty n
  | .tup ds, v => ∃ a vs, v = .ref a ∧ SqT K H a vs ∧ repL K H ds vs
  | .lst ds, v => ∃ a vs, v = .ref a ∧ H a = some (.lst vs) ∧ repL K H ds vs
  | .ins C ns ds, v => ∃ a dx vs, v = .ref a ∧ H a = some (.ins (He.ga K C) dx (ns.zip vs)) ∧ repL K H ds vs ∧ ns.length = vs.length
  | .cell _, _ => False
  | .raw w, v => v = w
  | .rl ds, v => ∃ a vs, v = .ref a ∧ SqL K H a vs ∧ repL K H ds vs
  | .cls C, v => v = .ref (He.ga K C)
  | .xo a dd _ ns ds, v => v = .ref a ∧ (ns = [] ∨ ∃ d vs, dd = some d ∧ H d = some (.xd (ns.zip vs)) ∧ repL K H ds vs ∧ ns.length = vs.length)
def repL (K : PySem.W.Frag) (H : Hp) : List D → List V → Prop
  | [], vs => vs = []
  | d :: ds, vs => ∃ v r, vs = v :: r ∧ rep K H d v ∧ repL K H ds r
end

section
variable {K : PySem.W.Frag} {H H' : Hp}
mutual
theorem rep_mono (e : Ex H H') : ∀ (d : D) (v : V), rep K H d v → rep K H' d v
  | .non, v, h => by simpa only [rep] using h
  | .bl b, v, h => by simpa only [rep] using h
  | .int i, v, h => by simpa only [rep] using h
  | .str s, v, h => by simpa only [rep] using h
  | .ty s, v, h => by simpa only [rep] using h
  | .tup ds, v, h => by
    rw [rep] at h ⊢
    obtain ⟨a, vs, e1, e2, e3⟩ := h
    exact ⟨a, vs, e1, ex_t e e2, repL_mono e ds vs e3⟩
  | .lst ds, v, h => by
    rw [rep] at h ⊢
    obtain ⟨a, vs, e1, e2, e3⟩ := h
    exact ⟨a, vs, e1, e _ _ e2, repL_mono e ds vs e3⟩
  | .ins C ns ds, v, h => by
    rw [rep] at h ⊢
    obtain ⟨a, dx, vs, e1, e2, e3, e4⟩ := h
    exact ⟨a, dx, vs, e1, e _ _ e2, repL_mono e ds vs e3, e4⟩
  | .cell _, v, h => by
    rw [rep] at h
    exact h.elim
  | .raw w, v, h => by simpa only [rep] using h
  | .rl ds, v, h => by
    rw [rep] at h ⊢
    obtain ⟨a, vs, e1, e2, e3⟩ := h
    exact ⟨a, vs, e1, ex_l e e2, repL_mono e ds vs e3⟩
  | .cls C, v, h => by simpa only [rep] using h
  | .xo a dd C ns ds, v, h => by
    rw [rep] at h ⊢
    refine ⟨h.1, h.2.imp id ?_⟩
    rintro ⟨d, vs, e1, e2, e3, e4⟩
    exact ⟨d, vs, e1, e _ _ e2, repL_mono e ds vs e3, e4⟩
theorem repL_mono (e : Ex H H') : ∀ (ds : List D) (vs : List V), repL K H ds vs → repL K H' ds vs
  | [], vs, h => by simpa only [repL] using h
  | d :: ds, vs, h => by
    rw [repL] at h ⊢
    obtain ⟨v, r, e1, e2, e3⟩ := h
    exact ⟨v, r, e1, rep_mono e d v e2, repL_mono e ds r e3⟩
end
theorem repL_length : ∀ {ds : List D} {vs : List V}, repL K H ds vs → ds.length = vs.length
  | [], vs, h => by
    rw [repL] at h
    subst h
    rfl
  | d :: ds, vs, h => by
    rw [repL] at h
    obtain ⟨v, r, rfl, _, e3⟩ := h
    simp [repL_length e3]
theorem repL_get : ∀ {ds : List D} {vs : List V} {i : Nat} {d : D}, repL K H ds vs → ds[i]? = some d → ∃ v, vs[i]? = some v ∧ rep K H d v
  | [], _, _, _, _, e => by simp at e
  | _ :: _, vs, 0, _, h, e => by
    rw [repL] at h
    obtain ⟨v, r, rfl, h1, _⟩ := h
    simp at e
    subst e
    exact ⟨v, by simp, h1⟩
  | _ :: ds, vs, i + 1, d, h, e => by
    rw [repL] at h
    obtain ⟨v, r, rfl, _, h2⟩ := h
    obtain ⟨w, e1, e2⟩ := repL_get (i := i) h2 (by simpa using e)
    exact ⟨w, by simpa using e1, e2⟩
theorem repL_get' : ∀ {ds : List D} {vs : List V} {i : Nat} {v : V}, repL K H ds vs → vs[i]? = some v → ∃ d, ds[i]? = some d ∧ rep K H d v
  | [], vs, i, v, h, e => by
    rw [repL] at h
    subst h
    simp at e
  | d :: ds, vs, 0, v, h, e => by
    rw [repL] at h
    obtain ⟨w, r, rfl, h1, _⟩ := h
    simp at e
    subst e
    exact ⟨d, by simp, h1⟩
  | d :: ds, vs, i + 1, v, h, e => by
    rw [repL] at h
    obtain ⟨w, r, rfl, _, h2⟩ := h
    obtain ⟨d', e1, e2⟩ := repL_get' (i := i) h2 (by simpa using e)
    exact ⟨d', by simpa using e1, e2⟩
theorem repL_append : ∀ {ds es : List D} {vs ws : List V}, repL K H ds vs → repL K H es ws → repL K H (ds ++ es) (vs ++ ws)
  | [], es, vs, ws, h, h2 => by
    rw [repL] at h
    subst h
    simpa using h2
  | d :: ds, es, vs, ws, h, h2 => by
    rw [repL] at h
    obtain ⟨v, r, rfl, h1, h3⟩ := h
    show repL K H (d :: (ds ++ es)) (v :: (r ++ ws))
    rw [repL]
    exact ⟨v, _, rfl, h1, repL_append h3 h2⟩
theorem repL_one {d : D} {v : V} (h : rep K H d v) : repL K H [d] [v] := by
  rw [repL]
  exact ⟨v, [], rfl, h, by rw [repL]⟩
theorem repL_cons {d : D} {v : V} {ds : List D} {vs : List V} (h : rep K H d v) (t : repL K H ds vs) : repL K H (d :: ds) (v :: vs) := by
  rw [repL]
  exact ⟨v, vs, rfl, h, t⟩
theorem repL_nil : repL K H [] [] := by rw [repL]
theorem repL_set : ∀ {ds : List D} {vs : List V} {d : D} {v : V} (i : Nat), repL K H ds vs → rep K H d v → repL K H (ds.set i d) (vs.set i v)
  | [], vs, d, v, i, h, _ => by
    rw [repL] at h
    subst h
    simpa using repL_nil
  | c :: ds, vs, d, v, 0, h, h2 => by
    rw [repL] at h
    obtain ⟨w, r, rfl, h1, h3⟩ := h
    exact repL_cons h2 h3
  | c :: ds, vs, d, v, i + 1, h, h2 => by
    rw [repL] at h
    obtain ⟨w, r, rfl, h1, h3⟩ := h
    exact repL_cons h1 (repL_set i h3 h2)
theorem repL_ints : ∀ (ns : List Int), repL K H (ns.map D.int) (ns.map V.int)
  | [] => repL_nil
  | n :: ns => repL_cons (by rw [rep]) (repL_ints ns)
theorem repL_ints_inv : ∀ {ns : List Int} {vs : List V}, repL K H (ns.map D.int) vs → vs = ns.map V.int
  | [], vs, h => by
    simpa [repL] using h
  | n :: ns, vs, h => by
    rw [List.map_cons, repL] at h
    obtain ⟨v, r, rfl, h1, h2⟩ := h
    rw [rep] at h1
    rw [h1, repL_ints_inv h2]
    rfl
end

/-! ### stores -/
/-- where the cells of a store stand; pv: objects that nobody may look at for now -/
structure AS where
  l : List Addr
  pv : Addr → Prop
def AS.snoc (as : AS) (p : Addr) : AS := ⟨as.l ++ [p], as.pv⟩
def AS.take (as : AS) (n : Nat) : AS := ⟨as.l.take n, as.pv⟩
def AS.prv (as : AS) (p : Addr) : AS := ⟨as.l, fun b => as.pv b ∨ b = p⟩
def live (as : AS) (M : List MO) (a : Addr) : Prop := (∃ (i : Nat) (mo : MO), M[i]? = some mo ∧ mo ≠ MO.dead ∧ as.l[i]? = some a) ∨ as.pv a
/-- the heap without the live cells -/
noncomputable def hide (as : AS) (M : List MO) (H : Hp) : Hp := fun b => if live as M b then none else H b
theorem hide_out {as : AS} {M : List MO} {H : Hp} {b : Addr} (h : ¬ live as M b) : hide as M H b = H b := by
  unfold hide
  rw [if_neg h]
theorem hide_in {as : AS} {M : List MO} {H : Hp} {b : Addr} (h : live as M b) : hide as M H b = none := by
  unfold hide
  rw [if_pos h]
theorem hide_some {as : AS} {M : List MO} {H : Hp} {b : Addr} {o : HO} (h : hide as M H b = some o) : ¬ live as M b ∧ H b = some o := by
  by_cases c : live as M b
  · rw [hide_in c] at h
    cases h
  · exact ⟨c, (hide_out c).symm.trans h⟩
theorem hide_ex {as : AS} {M : List MO} {H : Hp} : Ex (hide as M H) H := fun b o h => (hide_some h).2

/-- a value at a slot: a datum, or a cell -/
def repX (K : PySem.W.Frag) (as : AS) (H : Hp) (d : D) (v : V) : Prop := match d with
  | .cell i => ∃ a, as.l[i]? = some a ∧ v = .ref a
  | d => rep K H d v
/-- several values, each a datum or a cell -/
def repXs (K : PySem.W.Frag) (as : AS) (H : Hp) : List D → List V → Prop
  | [], vs => vs = []
  | d :: ds, vs => ∃ v r, vs = v :: r ∧ repX K as H d v ∧ repXs K as H ds r
/-- the cells in ds stand before i -/
def refsLt (i : Nat) (ds : List D) : Prop := ∀ j, D.cell j ∈ ds → j < i
def mrep (K : PySem.W.Frag) (as : AS) (i : Nat) (H : Hp) (mo : MO) (ho : HO) : Prop := match mo with
  | .ml ds => ∃ vs, ho = .lst vs ∧ repL K H ds vs
  | .mi C fs => ∃ dx vs, ho = .ins (He.ga K C) dx ((fs.map (·.1)).zip vs) ∧ repL K H (fs.map (·.2)) vs
  | .dead => True
  | .mx tp ds => ∃ vs, ho = (if tp = true then .tup vs else .lst vs) ∧ repXs K as H ds vs ∧ refsLt i ds
/-- no two live cells stand at one address -/
def ndS (l : List Addr) (M : List MO) : Prop := ∀ (i j : Nat) (a : Addr) (mi mj : MO), M[i]? = some mi → mi ≠ MO.dead → M[j]? = some mj → mj ≠ MO.dead → l[i]? = some a → l[j]? = some a → i = j
structure Hold (K : PySem.W.Frag) (as : AS) (M : List MO) (H : Hp) : Prop where
  len : as.l.length = M.length
  nd : ndS as.l M
  cel : ∀ (i : Nat) (mo : MO), M[i]? = some mo → mo ≠ MO.dead → ∃ a ho, as.l[i]? = some a ∧ H a = some ho ∧ mrep K as i (hide as M H) mo ho
  tr : ∀ a ∈ as.l, H a ≠ none
  pt : ∀ a, as.pv a → H a ≠ none ∧ a ∉ as.l
structure Nx (as : AS) (M : List MO) (H : Hp) (as' : AS) (M' : List MO) (H' : Hp) : Prop where
  pre : as.l <+: as'.l
  pv : as'.pv = as.pv
  ex : Ex (hide as M H) (hide as' M' H')
  prv : ∀ b, as.pv b → H' b = H b
def Slots (K : PySem.W.Frag) (as : AS) (H : Hp) (G : List (Option D)) (s : L2.St) : Prop :=
  G.length = s.length ∧ ∀ (i : Nat) (d : D), G[i]? = some (some d) → ∃ v, s[i]? = some (some v) ∧ repX K as H d v
structure Stt (K : PySem.W.Frag) (as : AS) (G : List (Option D)) (M : List MO) (s : L2.St) (H : Hp) : Prop where
  hold : Hold K as M H
  slots : Slots K as (hide as M H) G s

section
variable {p : Addr} {K : PySem.W.Frag} {as as1 as2 : AS} {M M1 M2 : List MO} {H H1 H2 : Hp} {G : List (Option D)} {s : L2.St} {d : D} {v : V}
theorem Nx.refl : Nx as M H as M H := ⟨List.prefix_refl _, rfl, Ex.refl _, fun _ _ => rfl⟩
theorem Nx.trans (a : Nx as M H as1 M1 H1) (b : Nx as1 M1 H1 as2 M2 H2) : Nx as M H as2 M2 H2 := ⟨a.pre.trans b.pre, b.pv.trans a.pv, a.ex.trans b.ex, fun c hc => (b.prv c (by rw [a.pv]; exact hc)).trans (a.prv c hc)⟩
theorem pre_get {α : Type} {l l' : List α} {i : Nat} {a : α} (h : l <+: l') (e : l[i]? = some a) : l'[i]? = some a := by
  obtain ⟨r, rfl⟩ := h
  have hi : i < l.length := (List.getElem?_eq_some_iff.mp e).1
  rw [List.getElem?_append_left hi]
  exact e
theorem repX_mono (p : as.l <+: as1.l) (e : Ex H H1) (h : repX K as H d v) : repX K as1 H1 d v := by
  cases d with
  | cell i =>
    obtain ⟨a, h1, h2⟩ := h
    exact ⟨a, pre_get p h1, h2⟩
  | _ => exact rep_mono e _ _ h
theorem repX_of (h : rep K H d v) : repX K as H d v := by
  cases d with
  | cell i =>
    rw [rep] at h
    exact h.elim
  | _ => exact h
theorem repX_nx (n : Nx as M H as1 M1 H1) (h : repX K as (hide as M H) d v) : repX K as1 (hide as1 M1 H1) d v := repX_mono n.pre n.ex h
theorem Slots.nx (n : Nx as M H as1 M1 H1) (h : Slots K as (hide as M H) G s) : Slots K as1 (hide as1 M1 H1) G s :=
  ⟨h.1, fun i d e => by
    obtain ⟨v, e1, e2⟩ := h.2 i d e
    exact ⟨v, e1, repX_nx n e2⟩⟩
theorem Stt.nx (n : Nx as M H as1 M1 H1) (h : Stt K as G M s H) (h1 : Hold K as1 M1 H1) : Stt K as1 G M1 s H1 := ⟨h1, h.slots.nx n⟩
theorem at_snoc {α : Type} {l : List α} {a b : α} {i : Nat} (h : (l ++ [a])[i]? = some b) : (i < l.length ∧ l[i]? = some b) ∨ (i = l.length ∧ a = b) := by
  by_cases hi : i < l.length
  · rw [List.getElem?_append_left hi] at h
    exact Or.inl ⟨hi, h⟩
  · rw [List.getElem?_append_right (by omega)] at h
    have z : i - l.length = 0 := by
      rcases Nat.eq_zero_or_pos (i - l.length) with z | z
      · exact z
      · rw [List.getElem?_eq_none (by simpa using Nat.succ_le_of_lt z)] at h
        cases h
    rw [z] at h
    exact Or.inr ⟨by omega, by simpa using h⟩
theorem ndS.snoc {l : List Addr} {M : List MO} {p : Addr} {mo : MO} (h : ndS l M) (hl : l.length = M.length) (hp : p ∉ l) : ndS (l ++ [p]) (M ++ [mo]) := fun i j a mi mj e1 d1 e2 d2 a1 a2 => by
  rcases at_snoc e1 with ⟨x1, y1⟩ | ⟨x1, y1⟩ <;> rcases at_snoc e2 with ⟨x2, y2⟩ | ⟨x2, y2⟩ <;> rcases at_snoc a1 with ⟨u1, v1⟩ | ⟨u1, v1⟩ <;> rcases at_snoc a2 with ⟨u2, v2⟩ | ⟨u2, v2⟩ <;> first
    | omega
    | exact h i j a mi mj y1 d1 y2 d2 v1 v2
    | exact (hp (by rw [v2]; exact List.mem_of_getElem? v1)).elim
    | exact (hp (by rw [v1]; exact List.mem_of_getElem? v2)).elim
theorem ndS.set {l : List Addr} {M : List MO} {i : Nat} {mo mo' : MO} (h : ndS l M) (e : M[i]? = some mo) (hd : mo ≠ MO.dead) : ndS l (M.set i mo') := fun a b q ma mb e1 d1 e2 d2 a1 a2 => by
  have go : ∀ c mc, (M.set i mo')[c]? = some mc → mc ≠ MO.dead → ∃ m, M[c]? = some m ∧ m ≠ MO.dead := fun c mc ec dc => by
    by_cases z : i = c
    · subst z
      exact ⟨mo, e, hd⟩
    · rw [List.getElem?_set_ne z] at ec
      exact ⟨mc, ec, dc⟩
  obtain ⟨m1, q1, r1⟩ := go a ma e1 d1
  obtain ⟨m2, q2, r2⟩ := go b mb e2 d2
  exact h a b q m1 m2 q1 r1 q2 r2 a1 a2
theorem kill_at {M : List MO} {i c : Nat} {mc : MO} (ec : (M.set i MO.dead)[c]? = some mc) (dc : mc ≠ MO.dead) : i ≠ c ∧ M[c]? = some mc := by
  by_cases z : i = c
  · subst z
    by_cases hi : i < M.length
    · rw [List.getElem?_set_self hi] at ec
      cases ec
      exact (dc rfl).elim
    · rw [List.getElem?_eq_none (by simpa using hi)] at ec
      cases ec
  · rw [List.getElem?_set_ne z] at ec
    exact ⟨z, ec⟩
theorem ndS.kill {l : List Addr} {M : List MO} {i : Nat} (h : ndS l M) : ndS l (M.set i MO.dead) := fun a b q ma mb e1 d1 e2 d2 a1 a2 => h a b q ma mb (kill_at e1 d1).2 d1 (kill_at e2 d2).2 d2 a1 a2
theorem take_at {α : Type} {l : List α} {n i : Nat} {a : α} (h : (l.take n)[i]? = some a) : i < n ∧ l[i]? = some a := by
  rw [List.getElem?_take] at h
  split at h
  · exact ⟨by assumption, h⟩
  · cases h
theorem ndS.take {l : List Addr} {M : List MO} (n : Nat) (h : ndS l M) : ndS (l.take n) (M.take n) := fun a b q ma mb e1 d1 e2 d2 a1 a2 => h a b q ma mb (take_at e1).2 d1 (take_at e2).2 d2 (take_at a1).2 (take_at a2).2
theorem ndS.keep {l : List Addr} {M : List MO} {n i : Nat} {mo : MO} {p : Addr} (h : ndS l M) (hl : l.length = M.length) (hn : n ≤ M.length) (hi : ¬ i < n) (hm : M[i]? = some mo) (hd : mo ≠ MO.dead) (hp : l[i]? = some p) : ndS (l.take n ++ [p]) (M.take n ++ [mo]) := fun a b q ma mb e1 d1 e2 d2 a1 a2 => by
  have l1 : (l.take n).length = n := by rw [List.length_take]; omega
  have l2 : (M.take n).length = n := by rw [List.length_take]; omega
  rcases at_snoc e1 with ⟨x1, y1⟩ | ⟨x1, y1⟩ <;> rcases at_snoc e2 with ⟨x2, y2⟩ | ⟨x2, y2⟩ <;> rcases at_snoc a1 with ⟨u1, v1⟩ | ⟨u1, v1⟩ <;> rcases at_snoc a2 with ⟨u2, v2⟩ | ⟨u2, v2⟩ <;> first
    | omega
    | exact h a b q ma mb (take_at y1).2 d1 (take_at y2).2 d2 (take_at v1).2 (take_at v2).2
    | (have := h a i q ma mo (take_at y1).2 d1 hm hd (take_at v1).2 (by rw [← v2]; exact hp); have := (take_at y1).1; omega)
    | (have := h b i q mb mo (take_at y2).2 d2 hm hd (take_at v2).2 (by rw [← v1]; exact hp); have := (take_at y2).1; omega)
theorem ndS.move {l : List Addr} {M : List MO} {i : Nat} {mo mo' : MO} {p : Addr} (h : ndS l M) (hl : l.length = M.length) (hm : M[i]? = some mo) (hd : mo ≠ MO.dead) (hp : l[i]? = some p) : ndS (l ++ [p]) (M.set i MO.dead ++ [mo']) := fun a b q ma mb e1 d1 e2 d2 a1 a2 => by
  have l2 : (M.set i MO.dead).length = M.length := List.length_set
  rcases at_snoc e1 with ⟨x1, y1⟩ | ⟨x1, y1⟩ <;> rcases at_snoc e2 with ⟨x2, y2⟩ | ⟨x2, y2⟩ <;> rcases at_snoc a1 with ⟨u1, v1⟩ | ⟨u1, v1⟩ <;> rcases at_snoc a2 with ⟨u2, v2⟩ | ⟨u2, v2⟩ <;> first
    | omega
    | exact h a b q ma mb (kill_at y1 d1).2 d1 (kill_at y2 d2).2 d2 v1 v2
    | exact ((kill_at y1 d1).1 (h i a q mo ma hm hd (kill_at y1 d1).2 d1 (by rw [← v2]; exact hp) v1)).elim
    | exact ((kill_at y2 d2).1 (h i b q mo mb hm hd (kill_at y2 d2).2 d2 (by rw [← v1]; exact hp) v2)).elim
theorem Hold.live_some (h : Hold K as M H) {a : Addr} (l : live as M a) : H a ≠ none := by
  rcases l with ⟨i, mo, e, hd, ha⟩ | l
  · exact h.tr a (List.mem_of_getElem? ha)
  · exact (h.pt a l).1
theorem Hold.not_live_of_none (h : Hold K as M H) {p : Addr} (hp : H p = none) : ¬ live as M p := fun l => h.live_some l hp
theorem Hold.not_mem_of_none (h : Hold K as M H) {p : Addr} (hp : H p = none) : p ∉ as.l := fun l => h.tr p l hp
theorem repXs_mono (p : as.l <+: as1.l) (e : Ex H H1) : ∀ {ds : List D} {vs : List V}, repXs K as H ds vs → repXs K as1 H1 ds vs
  | [], _, h => h
  | _ :: _, _, ⟨v, r, e1, h1, h2⟩ => ⟨v, r, e1, repX_mono p e h1, repXs_mono p e h2⟩
theorem repXs_take {n : Nat} : ∀ {ds : List D} {vs : List V}, refsLt n ds → repXs K as H ds vs → repXs K (as.take n) H ds vs
  | [], _, _, h => h
  | d :: _, _, hl, ⟨v, r, e1, h1, h2⟩ => by
    refine ⟨v, r, e1, ?_, repXs_take (fun j hj => hl j (List.mem_cons_of_mem _ hj)) h2⟩
    cases d with
    | cell j =>
      obtain ⟨a, q1, q2⟩ := h1
      refine ⟨a, ?_, q2⟩
      show (as.l.take n)[j]? = _
      rw [List.getElem?_take, if_pos (hl j (List.mem_cons_self ..))]
      exact q1
    | _ => exact h1
theorem mrep_mono {i : Nat} {mo : MO} {ho : HO} (p : as.l <+: as1.l) (e : Ex H H1) (h : mrep K as i H mo ho) : mrep K as1 i H1 mo ho := by
  cases mo with
  | ml ds =>
    obtain ⟨vs, e1, e2⟩ := h
    exact ⟨vs, e1, repL_mono e _ _ e2⟩
  | mi C fs =>
    obtain ⟨dx, vs, e1, e2⟩ := h
    exact ⟨dx, vs, e1, repL_mono e _ _ e2⟩
  | dead => trivial
  | mx tp ds =>
    obtain ⟨vs, e1, e2, e3⟩ := h
    exact ⟨vs, e1, repXs_mono p e e2, e3⟩
theorem mrep_take {i n : Nat} {mo : MO} {ho : HO} (hi : i ≤ n) (h : mrep K as i H mo ho) : mrep K (as.take n) i H mo ho := by
  cases mo with
  | mx tp ds =>
    obtain ⟨vs, e1, e2, e3⟩ := h
    exact ⟨vs, e1, repXs_take (fun j hj => Nat.lt_of_lt_of_le (e3 j hj) hi) e2, e3⟩
  | _ => exact h
/-- nothing in it is a cell -/
def noX : MO → Prop
  | .mx _ _ => False
  | _ => True
theorem mrep_any {i j : Nat} {mo : MO} {ho : HO} (n : noX mo) (h : mrep K as i H mo ho) : mrep K as1 j H mo ho := by
  cases mo with
  | mx tp ds => exact n.elim
  | _ => exact h
theorem some_ne {α : Type} {o : Option α} (h : o ≠ none) : ∃ x, o = some x := by
  cases o with
  | none => exact absurd rfl h
  | some x => exact ⟨x, rfl⟩
theorem ex_ne (e : Ex H H1) {a : Addr} (h : H a ≠ none) : H1 a ≠ none := by
  obtain ⟨o, z⟩ := some_ne h
  rw [e a o z]
  exact fun q => nomatch q
/-- the heap has grown: what was tracked stands -/
theorem Hold.grow (h : Hold K as M H) (e : Ex H H1) : Hold K as M H1 ∧ Nx as M H as M H1 := by
  have ee : Ex (hide as M H) (hide as M H1) := fun b o hb => by
    obtain ⟨n, q⟩ := hide_some hb
    rw [hide_out n]
    exact e b o q
  refine ⟨⟨h.len, h.nd, fun i mo hi hd => ?_, fun a ha => ex_ne e (h.tr a ha), fun a ha => ⟨ex_ne e (h.pt a ha).1, (h.pt a ha).2⟩⟩, List.prefix_refl _, rfl, ee, fun b hb => ?_⟩
  · obtain ⟨a, ho, h1, h2, h3⟩ := h.cel i mo hi hd
    exact ⟨a, ho, h1, e a ho h2, mrep_mono (List.prefix_refl _) ee h3⟩
  · obtain ⟨o, z⟩ := some_ne (h.pt b hb).1
    rw [z, e b o z]
/-- a new object that never changes -/
theorem Hold.imm (h : Hold K as M H) {p : Addr} {o : HO} (hp : H p = none) : Hold K as M (upd H p o) ∧ Nx as M H as M (upd H p o) ∧ hide as M (upd H p o) p = some o := by
  obtain ⟨a, b⟩ := h.grow (H1 := upd H p o) (Ex.new hp)
  refine ⟨a, b, ?_⟩
  rw [hide_out (h.not_live_of_none hp)]
  exact upd_same
theorem live_snoc (h : Hold K as M H) {p b : Addr} {mo : MO} (hd : mo ≠ .dead) : live (as.snoc p) (M ++ [mo]) b ↔ live as M b ∨ b = p := by
  constructor
  · rintro (⟨i, m, e, d, ha⟩ | hp)
    · have ha : (as.l ++ [p])[i]? = some b := ha
      by_cases hi : i < M.length
      · rw [List.getElem?_append_left hi] at e
        rw [List.getElem?_append_left (by rw [h.len]; exact hi)] at ha
        exact Or.inl (Or.inl ⟨i, m, e, d, ha⟩)
      · rw [List.getElem?_append_right (by omega)] at e
        rw [List.getElem?_append_right (by rw [h.len]; omega), h.len] at ha
        have z : i - M.length = 0 := by
          rcases Nat.eq_zero_or_pos (i - M.length) with z | z
          · exact z
          · rw [List.getElem?_eq_none (by simpa using Nat.succ_le_of_lt z)] at e
            cases e
        rw [z] at ha
        right
        simpa using ha.symm
    · exact Or.inl (Or.inr hp)
  · rintro ((⟨i, m, e, d, ha⟩ | hp) | rfl)
    · exact Or.inl ⟨i, m, pre_get ⟨[mo], rfl⟩ e, d, pre_get ⟨[p], rfl⟩ ha⟩
    · exact Or.inr hp
    · exact Or.inl ⟨M.length, mo, by simp, hd, by show (as.l ++ [b])[M.length]? = _; rw [← h.len]; simp⟩
/-- a new cell -/
theorem Hold.mut (h : Hold K as M H) {p : Addr} {ho : HO} {mo : MO} (hp : H p = none) (hd : mo ≠ .dead) (r : mrep K as M.length (hide as M H) mo ho) :
    Hold K (as.snoc p) (M ++ [mo]) (upd H p ho) ∧ Nx as M H (as.snoc p) (M ++ [mo]) (upd H p ho) := by
  have hn := h.not_mem_of_none hp
  have npv : ∀ b, as.pv b → b ≠ p := fun b hb z => (h.pt b hb).1 (z ▸ hp)
  have ee : Ex (hide as M H) (hide (as.snoc p) (M ++ [mo]) (upd H p ho)) := fun b o hb => by
    obtain ⟨n, q⟩ := hide_some hb
    have hbp : b ≠ p := ne_of_none q hp
    rw [hide_out (by rw [live_snoc h hd]; rintro (z | z); exact n z; exact hbp z), upd_ne hbp]
    exact q
  refine ⟨⟨by simp [AS.snoc, h.len], ?_, fun i m hi hdm => ?_, fun a ha => ?_, fun a ha => ⟨by rw [upd_ne (npv a ha)]; exact (h.pt a ha).1, ?_⟩⟩, ⟨[p], rfl⟩, rfl, ee, fun b hb => upd_ne (npv b hb)⟩
  · exact h.nd.snoc h.len hn
  · by_cases hl : i < M.length
    · rw [List.getElem?_append_left hl] at hi
      obtain ⟨a, o, h1, h2, h3⟩ := h.cel i m hi hdm
      exact ⟨a, o, pre_get ⟨[p], rfl⟩ h1, by rw [upd_ne (ne_of_none h2 hp)]; exact h2, mrep_mono ⟨[p], rfl⟩ ee h3⟩
    · rw [List.getElem?_append_right (by omega)] at hi
      have z : i - M.length = 0 := by
        rcases Nat.eq_zero_or_pos (i - M.length) with z | z
        · exact z
        · rw [List.getElem?_eq_none (by simpa using Nat.succ_le_of_lt z)] at hi
          cases hi
      rw [z] at hi
      have e : mo = m := by simpa using hi
      subst e
      have ei : i = as.l.length := by rw [h.len]; omega
      exact ⟨p, ho, by show (as.l ++ [p])[i]? = _; rw [ei]; simp, upd_same, by rw [ei, h.len]; exact mrep_mono ⟨[p], rfl⟩ ee r⟩
  · rcases List.mem_append.mp (show a ∈ as.l ++ [p] from ha) with ha | ha
    · have z : a ≠ p := fun z => hn (z ▸ ha)
      rw [upd_ne z]
      exact h.tr a ha
    · have : a = p := by simpa using ha
      rw [this, upd_same]
      exact fun q => nomatch q
  · show a ∉ as.l ++ [p]
    intro hm
    rcases List.mem_append.mp hm with hm | hm
    · exact (h.pt a ha).2 hm
    · exact npv a ha (by simpa using hm)
theorem live_set (h : Hold K as M H) {i : Nat} {mo mo' : MO} (e : M[i]? = some mo) (hd : mo ≠ .dead) (hd' : mo' ≠ .dead) {b : Addr} : live as (M.set i mo') b ↔ live as M b := by
  have hi : i < M.length := (List.getElem?_eq_some_iff.mp e).1
  constructor
  · rintro (⟨j, m, ej, dj, ha⟩ | hp)
    · by_cases c : i = j
      · subst c
        exact Or.inl ⟨i, mo, e, hd, ha⟩
      · rw [List.getElem?_set_ne c] at ej
        exact Or.inl ⟨j, m, ej, dj, ha⟩
    · exact Or.inr hp
  · rintro (⟨j, m, ej, dj, ha⟩ | hp)
    · by_cases c : i = j
      · subst c
        exact Or.inl ⟨i, mo', List.getElem?_set_self hi, hd', ha⟩
      · exact Or.inl ⟨j, m, by rw [List.getElem?_set_ne c]; exact ej, dj, ha⟩
    · exact Or.inr hp
/-- a cell is written -/
theorem Hold.write (h : Hold K as M H) {i : Nat} {a : Addr} {mo mo' : MO} {ho' : HO} (e : M[i]? = some mo) (hd : mo ≠ .dead) (hd' : mo' ≠ .dead) (ha : as.l[i]? = some a) (r : mrep K as i (hide as M H) mo' ho') :
    Hold K as (M.set i mo') (upd H a ho') ∧ Nx as M H as (M.set i mo') (upd H a ho') := by
  have hi : i < M.length := (List.getElem?_eq_some_iff.mp e).1
  have lv : live as M a := Or.inl ⟨i, mo, e, hd, ha⟩
  have npv : ∀ b, as.pv b → b ≠ a := fun b hb z => (h.pt b hb).2 (z ▸ List.mem_of_getElem? ha)
  have ee : Ex (hide as M H) (hide as (M.set i mo') (upd H a ho')) := fun b o hb => by
    obtain ⟨n, q⟩ := hide_some hb
    have nb : b ≠ a := fun z => n (by rw [z]; exact lv)
    rw [hide_out (by rw [live_set h e hd hd']; exact n), upd_ne nb]
    exact q
  have tr : ∀ b, H b ≠ none → upd H a ho' b ≠ none := fun b hb => by
    by_cases z : b = a
    · rw [z, upd_same]
      exact fun q => nomatch q
    · rw [upd_ne z]
      exact hb
  refine ⟨⟨by simpa using h.len, h.nd.set e hd, fun j m hj hdm => ?_, fun b hb => tr b (h.tr b hb), fun b hb => ⟨tr b (h.pt b hb).1, (h.pt b hb).2⟩⟩, List.prefix_refl _, rfl, ee, fun b hb => upd_ne (npv b hb)⟩
  by_cases c : i = j
  · subst c
    rw [List.getElem?_set_self hi] at hj
    cases hj
    exact ⟨a, ho', ha, upd_same, mrep_mono (List.prefix_refl _) ee r⟩
  · rw [List.getElem?_set_ne c] at hj
    obtain ⟨b, o, h1, h2, h3⟩ := h.cel j m hj hdm
    have nba : b ≠ a := fun z => c (h.nd i j a _ _ e hd hj hdm ha (z ▸ h1))
    exact ⟨b, o, h1, by rw [upd_ne nba]; exact h2, mrep_mono (List.prefix_refl _) ee h3⟩
theorem live_kill {i : Nat} {b : Addr} (l : live as (M.set i .dead) b) : live as M b := by
  rcases l with ⟨j, m, ej, dj, ha⟩ | l
  · by_cases c : i = j
    · subst c
      by_cases hi : i < M.length
      · rw [List.getElem?_set_self hi] at ej
        cases ej
        exact absurd rfl dj
      · rw [List.getElem?_eq_none (by simpa using hi)] at ej
        cases ej
    · rw [List.getElem?_set_ne c] at ej
      exact Or.inl ⟨j, m, ej, dj, ha⟩
  · exact Or.inr l
/-- a cell never changes again: its object is a datum from here on -/
theorem Hold.freeze (h : Hold K as M H) {i : Nat} {mo : MO} (e : M[i]? = some mo) (hd : mo ≠ .dead) :
    ∃ a ho, as.l[i]? = some a ∧ H a = some ho ∧ mrep K as i (hide as (M.set i .dead) H) mo ho ∧ hide as (M.set i .dead) H a = some ho ∧ Hold K as (M.set i .dead) H ∧ Nx as M H as (M.set i .dead) H := by
  obtain ⟨a, ho, h1, h2, h3⟩ := h.cel i mo e hd
  have hi : i < M.length := (List.getElem?_eq_some_iff.mp e).1
  have ee : Ex (hide as M H) (hide as (M.set i .dead) H) := fun b o hb => by
    obtain ⟨n, q⟩ := hide_some hb
    rw [hide_out fun z => n (live_kill z)]
    exact q
  have na : ¬ live as (M.set i .dead) a := by
    rintro (⟨j, m, ej, dj, ha⟩ | hp)
    · obtain ⟨c, ej⟩ := kill_at ej dj
      exact c (h.nd i j a _ _ e hd ej dj h1 ha)
    · exact (h.pt a hp).2 (List.mem_of_getElem? h1)
  refine ⟨a, ho, h1, h2, mrep_mono (List.prefix_refl _) ee h3, by rw [hide_out na]; exact h2, ⟨by simpa using h.len, h.nd.kill, fun j m hj hdm => ?_, h.tr, h.pt⟩, List.prefix_refl _, rfl, ee, fun _ _ => rfl⟩
  by_cases c : i = j
  · subst c
    rw [List.getElem?_set_self hi] at hj
    cases hj
    exact absurd rfl hdm
  · rw [List.getElem?_set_ne c] at hj
    obtain ⟨b, o, q1, q2, q3⟩ := h.cel j m hj hdm
    exact ⟨b, o, q1, q2, mrep_mono (List.prefix_refl _) ee q3⟩
theorem live_take {n : Nat} {b : Addr} (l : live (as.take n) (M.take n) b) : live as M b := by
  rcases l with ⟨j, m, ej, dj, ha⟩ | l
  · have ha : (as.l.take n)[j]? = some b := ha
    rw [List.getElem?_take] at ej ha
    split at ej
    · rename_i hj
      rw [if_pos hj] at ha
      exact Or.inl ⟨j, m, ej, dj, ha⟩
    · cases ej
  · exact Or.inr l
/-- the last cells are let go -/
theorem Hold.drop (h : Hold K as M H) (n : Nat) : Hold K (as.take n) (M.take n) H ∧ Ex (hide as M H) (hide (as.take n) (M.take n) H) := by
  have ee : Ex (hide as M H) (hide (as.take n) (M.take n) H) := fun b o hb => by
    obtain ⟨nl, q⟩ := hide_some hb
    rw [hide_out fun z => nl (live_take z)]
    exact q
  refine ⟨⟨by simp [AS.take, h.len], h.nd.take n, fun j m hj hdm => ?_, fun a ha => h.tr a (List.mem_of_mem_take ha), fun a ha => ⟨(h.pt a ha).1, fun z => (h.pt a ha).2 (List.mem_of_mem_take z)⟩⟩, ee⟩
  rw [List.getElem?_take] at hj
  split at hj
  · rename_i hn
    obtain ⟨a, o, h1, h2, h3⟩ := h.cel j m hj hdm
    exact ⟨a, o, by show (as.l.take n)[j]? = _; rw [List.getElem?_take, if_pos hn]; exact h1, h2, mrep_take (Nat.le_of_lt hn) (mrep_mono (List.prefix_refl _) ee h3)⟩
  · cases hj
theorem live_move {i : Nat} {p : Addr} {mo mo' : MO} (h : Hold K as M H) (e : M[i]? = some mo) (hd : mo ≠ .dead) (hd' : mo' ≠ .dead) (ha : as.l[i]? = some p) {b : Addr} : live (as.snoc p) (M.set i .dead ++ [mo']) b ↔ live as M b := by
  have l2 : (M.set i .dead).length = M.length := List.length_set
  have l1 : as.l.length = M.length := h.len
  constructor
  · rintro (⟨j, m, ej, dj, hb⟩ | hb)
    · have hb : (as.l ++ [p])[j]? = some b := hb
      rcases at_snoc ej with ⟨x1, y1⟩ | ⟨x1, y1⟩
      · rcases at_snoc hb with ⟨u1, v1⟩ | ⟨u1, v1⟩
        · exact Or.inl ⟨j, m, (kill_at y1 dj).2, dj, v1⟩
        · omega
      · rcases at_snoc hb with ⟨u1, v1⟩ | ⟨u1, v1⟩
        · omega
        · subst v1
          exact Or.inl ⟨i, mo, e, hd, ha⟩
    · exact Or.inr hb
  · rintro (⟨j, m, ej, dj, hb⟩ | hb)
    · by_cases c : i = j
      · subst c
        rw [ha] at hb
        cases hb
        exact Or.inl ⟨M.length, mo', by rw [← l2]; simp, hd', by show (as.l ++ [p])[M.length]? = _; rw [← l1]; simp⟩
      · have hj := (List.getElem?_eq_some_iff.mp ej).1
        refine Or.inl ⟨j, m, ?_, dj, pre_get ⟨[p], rfl⟩ hb⟩
        rw [List.getElem?_append_left (by rw [l2]; exact hj), List.getElem?_set_ne c]
        exact ej
    · exact Or.inr hb
/-- a cell is written and comes to stand behind all others -/
theorem Hold.move (h : Hold K as M H) {i : Nat} {a : Addr} {mo mo' : MO} {ho' : HO} (e : M[i]? = some mo) (hd : mo ≠ .dead) (hd' : mo' ≠ .dead) (ha : as.l[i]? = some a) (r : mrep K as M.length (hide as M H) mo' ho') :
    Hold K (as.snoc a) (M.set i .dead ++ [mo']) (upd H a ho') ∧ Nx as M H (as.snoc a) (M.set i .dead ++ [mo']) (upd H a ho') := by
  have l2 : (M.set i .dead).length = M.length := List.length_set
  have l1 : as.l.length = M.length := h.len
  have lv : live as M a := Or.inl ⟨i, mo, e, hd, ha⟩
  have npv : ∀ b, as.pv b → b ≠ a := fun b hb z => (h.pt b hb).2 (z ▸ List.mem_of_getElem? ha)
  have ee : Ex (hide as M H) (hide (as.snoc a) (M.set i .dead ++ [mo']) (upd H a ho')) := fun b o hb => by
    obtain ⟨n, q⟩ := hide_some hb
    have nb : b ≠ a := fun z => n (by rw [z]; exact lv)
    rw [hide_out (by rw [live_move h e hd hd' ha]; exact n), upd_ne nb]
    exact q
  have tr : ∀ b, H b ≠ none → upd H a ho' b ≠ none := fun b hb => by
    by_cases z : b = a
    · rw [z, upd_same]
      exact fun q => nomatch q
    · rw [upd_ne z]
      exact hb
  have mem : ∀ b, b ∈ (as.snoc a).l → b ∈ as.l := fun b hb => by
    rcases List.mem_append.mp (show b ∈ as.l ++ [a] from hb) with hb | hb
    · exact hb
    · rw [List.mem_singleton.mp hb]
      exact List.mem_of_getElem? ha
  refine ⟨⟨by simp [AS.snoc, l1], h.nd.move l1 e hd ha, fun j m hj hdm => ?_, fun b hb => tr b (h.tr b (mem b hb)), fun b hb => ⟨tr b (h.pt b hb).1, fun z => (h.pt b hb).2 (mem b z)⟩⟩, ⟨[a], rfl⟩, rfl, ee, fun b hb => upd_ne (npv b hb)⟩
  rcases at_snoc hj with ⟨x1, y1⟩ | ⟨x1, y1⟩
  · obtain ⟨c, ej⟩ := kill_at y1 hdm
    obtain ⟨b, o, h1, h2, h3⟩ := h.cel j m ej hdm
    have nba : b ≠ a := fun z => c (h.nd i j a _ _ e hd ej hdm ha (z ▸ h1))
    exact ⟨b, o, pre_get ⟨[a], rfl⟩ h1, by rw [upd_ne nba]; exact h2, mrep_mono ⟨[a], rfl⟩ ee h3⟩
  · subst y1
    rw [l2] at x1
    subst x1
    exact ⟨a, ho', by show (as.l ++ [a])[M.length]? = _; rw [← l1]; simp, upd_same, mrep_mono ⟨[a], rfl⟩ ee r⟩
/-- an object of one's own that nobody else may look at -/
theorem live_prv {p b : Addr} : live (as.prv p) M b ↔ live as M b ∨ b = p := by
  constructor
  · rintro (z | z | z)
    · exact Or.inl (Or.inl z)
    · exact Or.inl (Or.inr z)
    · exact Or.inr z
  · rintro ((z | z) | z)
    · exact Or.inl z
    · exact Or.inr (Or.inl z)
    · exact Or.inr (Or.inr z)
theorem Hold.hid (h : Hold K as M H) {p : Addr} {o : HO} (hp : H p = none) : Hold K (as.prv p) M (upd H p o) ∧ Ex (hide as M H) (hide (as.prv p) M (upd H p o)) := by
  have ee : Ex (hide as M H) (hide (as.prv p) M (upd H p o)) := fun b u hb => by
    obtain ⟨n, q⟩ := hide_some hb
    have hbp : b ≠ p := ne_of_none q hp
    rw [hide_out (by rw [live_prv]; rintro (z | z); exact n z; exact hbp z), upd_ne hbp]
    exact q
  have tr : ∀ b, H b ≠ none → upd H p o b ≠ none := fun b hb => by
    have z : b ≠ p := fun z => hb (by rw [z]; exact hp)
    rw [upd_ne z]
    exact hb
  refine ⟨⟨h.len, h.nd, fun i m hi hdm => ?_, fun a ha => tr a (h.tr a ha), fun a ha => ?_⟩, ee⟩
  · obtain ⟨b, u, q1, q2, q3⟩ := h.cel i m hi hdm
    exact ⟨b, u, q1, by rw [upd_ne (ne_of_none q2 hp)]; exact q2, mrep_mono (show as.l <+: (as.prv p).l from List.prefix_refl _) ee q3⟩
  · rcases ha with ha | rfl
    · exact ⟨tr a (h.pt a ha).1, (h.pt a ha).2⟩
    · exact ⟨by rw [upd_same]; exact (fun q => nomatch q), h.not_mem_of_none hp⟩
theorem hide_prv_upd {p : Addr} {o : HO} (n : ¬ live as M p → True) : hide (as.prv p) M (upd H p o) = hide (as.prv p) M H := by
  funext b
  by_cases c : live (as.prv p) M b
  · rw [hide_in c, hide_in c]
  · rw [hide_out c, hide_out c, upd_ne fun z => c (live_prv.mpr (Or.inr z))]
/-- that object is written -/
theorem Hold.hidW (h : Hold K (as.prv p) M H) {o : HO} : Hold K (as.prv p) M (upd H p o) := by
  have e := hide_prv_upd (as := as) (M := M) (H := H) (p := p) (o := o) (fun _ => trivial)
  have np : p ∉ as.l := (h.pt p (Or.inr rfl)).2
  have tr : ∀ b, H b ≠ none → upd H p o b ≠ none := fun b hb => by
    by_cases z : b = p
    · rw [z, upd_same]
      exact fun q => nomatch q
    · rw [upd_ne z]
      exact hb
  refine ⟨h.len, h.nd, fun i m hi hdm => ?_, fun a ha => tr a (h.tr a ha), fun a ha => ⟨tr a (h.pt a ha).1, (h.pt a ha).2⟩⟩
  obtain ⟨b, u, q1, q2, q3⟩ := h.cel i m hi hdm
  have z : b ≠ p := fun z => np (by rw [← z]; exact List.mem_of_getElem? q1)
  exact ⟨b, u, q1, by rw [upd_ne z]; exact q2, by rw [e]; exact q3⟩
/-- it is shown to all -/
theorem Hold.show_ (h : Hold K (as.prv p) M H) (np : ¬ as.pv p) : Hold K as M H ∧ Ex (hide (as.prv p) M H) (hide as M H) ∧ ¬ live as M p := by
  have nl : ¬ live as M p := by
    rintro (⟨i, m, e, d, ha⟩ | z)
    · exact (h.pt p (Or.inr rfl)).2 (List.mem_of_getElem? ha)
    · exact np z
  have ee : Ex (hide (as.prv p) M H) (hide as M H) := fun b u hb => by
    obtain ⟨n, q⟩ := hide_some hb
    rw [hide_out fun z => n (live_prv.mpr (Or.inl z))]
    exact q
  refine ⟨⟨h.len, h.nd, fun i m hi hdm => ?_, h.tr, fun a ha => h.pt a (Or.inl ha)⟩, ee, nl⟩
  obtain ⟨b, u, q1, q2, q3⟩ := h.cel i m hi hdm
  exact ⟨b, u, q1, q2, mrep_mono (show (as.prv p).l <+: as.l from List.prefix_refl _) ee q3⟩
end
end DL

/-! DLb: readings over data; expressions, tests, arguments, statements, loops. -/
namespace DL
open PySem PySem.Spec PyProof.Rows L2 Evl
open Classical

structure XD where
  C : Str
  ns : List Str
  ds : List D
abbrev Gm := List (Option D)
abbrev Ms := List MO
abbrev DK := D → Ms → Prop
abbrev DX := XD → Ms → Prop
abbrev DTE := Gm → Ms → DK → DX → Prop
abbrev DTT := Gm → Ms → (Bool → Ms → Prop) → DX → Prop
abbrev DTA := Gm → Ms → (List D → Ms → Prop) → DX → Prop
structure DEnds where
  nx : Gm → Ms → Prop
  rt : DK
  bk : Gm → Ms → Prop
  ct : Gm → Ms → Prop
  ex : XD → Gm → Ms → Prop
abbrev DTS := DEnds → Gm → Ms → Prop
abbrev DSp := List D → Ms → DK → DX → Prop
abbrev DOp := D → D → Ms → DK → DX → Prop
abbrev DUn := D → Ms → DK → DX → Prop
/-- what nothing may raise -/
abbrev X0 : DX := fun _ _ => False

/-- the error x lies at its class and its own dict -/
def xcIs (K : PySem.W.Frag) (H : Hp) (x : XD) (cls : Value) (dd : Option Addr) : Prop :=
  cls = .ref (He.ga K x.C) ∧ ((x.ns = [] ∧ dd = none) ∨ x.ns ≠ [] ∧ ∃ d vs, dd = some d ∧ H d = some (.xd (x.ns.zip vs)) ∧ repL K H x.ds vs ∧ x.ns.length = vs.length)
/-- an error ends the piece of code that began at as, M, H -/
def XW (K : PySem.W.Frag) (as : AS) (M : Ms) (H : Hp) (Kx : XD → Gm → Ms → Prop) : WX := fun cls dd s' H' =>
  ∃ x G' as' M', Nx as M H as' M' H' ∧ Stt K as' G' M' s' H' ∧ xcIs K (hide as' M' H') x cls dd ∧ Kx x G' M'
abbrev XWe (K : PySem.W.Frag) (as : AS) (M : Ms) (H : Hp) (G : Gm) (Kx : DX) : WX := XW K as M H (fun x G' M' => G' = G ∧ Kx x M')
/-- behind an expression -/
def Back (K : PySem.W.Frag) (as : AS) (M : Ms) (H : Hp) (k : DK) (Q : VK) : Prop :=
  ∀ v H' as' d' M', Nx as M H as' M' H' → Hold K as' M' H' → repX K as' (hide as' M' H') d' v → k d' M' → Q v H'

def semE (X : Cx) (e : Expr) : TE := fun s H Q => ∀ pins sh, Inv X pins s H sh → wpAny (model X.prog X.w) X.A (eval e X.env) (EP X pins s Q) X.xe sh
def semT (X : Cx) (e : Expr) : TT := fun s H Q => ∀ pins sh, Inv X pins s H sh → wpAny (model X.prog X.w) X.A (isTrue e X.env (eval e X.env)) (TP X pins s Q) X.xe sh
def semW (X : Cx) (e : Expr) : TT := fun s H Q => ∀ whole pins sh, Inv X pins s H sh → wpAny (model X.prog X.w) X.A (isTrue e X.env whole) (TP X pins s Q) X.xe sh
def semA (X : Cx) (es : List Expr) : TA := fun s H Q => ∀ pos pins sh, Inv X pins s H sh → wpAny (model X.prog X.w) X.A (spliced (backTo pos (starEach es X.env))) (AP X pins s Q) X.xe sh
def semS (X : Cx) (st : Stmt) : TS := fun D s H => ∀ pins sh, Inv X pins s H sh → wpAny (model X.prog X.w) X.A (exec st X.env) (SP X pins D) X.xe sh
def semB (X : Cx) (ss : List Stmt) : TS := fun D s H => ∀ pins sh, Inv X pins s H sh → wpAny (model X.prog X.w) X.A (execs ss X.env) (SP X pins D) X.xe sh
theorem pe_sem {X : Cx} {e : Expr} : PE X e (semE X e) := ⟨fun pins s σ H Q I h => h pins s I⟩
theorem pt_sem {X : Cx} {e : Expr} : PT X e (semT X e) := ⟨fun pins s σ H Q I h => h pins s I⟩
theorem pw_sem {X : Cx} {e : Expr} : PW X e (semW X e) := ⟨fun whole pins s σ H Q I h => h whole pins s I⟩
theorem pa_sem {X : Cx} {es : List Expr} : PA X es (semA X es) := ⟨fun pos pins s σ H Q I h => h pos pins s I⟩
theorem ps_sem {X : Cx} {st : Stmt} : PS X st (semS X st) := ⟨fun pins s σ H D I h => h pins s I⟩
theorem pss_sem {X : Cx} {ss : List Stmt} : PSs X ss (semB X ss) := ⟨fun pins s σ H D I h => h pins s I⟩
theorem PE.sem {X : Cx} {e : Expr} {t : TE} (h : PE X e t) {s : L2.St} {H : Hp} {Q : VK} (q : t s H Q) : semE X e s H Q := fun pins sh I => h.run pins sh s H Q I q
theorem PT.sem {X : Cx} {e : Expr} {t : TT} (h : PT X e t) {s : L2.St} {H : Hp} {Q : Bool → Hp → Prop} (q : t s H Q) : semT X e s H Q := fun pins sh I => h.run pins sh s H Q I q
theorem PW.sem {X : Cx} {e : Expr} {t : TT} (h : PW X e t) {s : L2.St} {H : Hp} {Q : Bool → Hp → Prop} (q : t s H Q) : semW X e s H Q := fun whole pins sh I => h.run whole pins sh s H Q I q
theorem PA.sem {X : Cx} {es : List Expr} {t : TA} (h : PA X es t) {s : L2.St} {H : Hp} {Q : List V → Hp → Prop} (q : t s H Q) : semA X es s H Q := fun pos pins sh I => h.run pos pins sh s H Q I q
theorem PS.sem {X : Cx} {st : Stmt} {t : TS} (h : PS X st t) {s : L2.St} {H : Hp} {D : Ends} (q : t D s H) : semS X st D s H := fun pins sh I => h.run pins sh s H D I q
theorem PSs.sem {X : Cx} {ss : List Stmt} {t : TS} (h : PSs X ss t) {s : L2.St} {H : Hp} {D : Ends} (q : t D s H) : semB X ss D s H := fun pins sh I => h.run pins sh s H D I q

structure WE (X : Cx) (e : Expr) (d : DTE) : Prop where
  run : ∀ {s : L2.St} {H : Hp} {as : AS} {G : Gm} {M : Ms} {k : DK} {kx : DX} {Q : VK}, Stt X.K as G M s H → d G M k kx → Takes X (XWe X.K as M H G kx) → Back X.K as M H k Q → semE X e s H Q
structure WT (X : Cx) (e : Expr) (d : DTT) : Prop where
  run : ∀ {s : L2.St} {H : Hp} {as : AS} {G : Gm} {M : Ms} {k : Bool → Ms → Prop} {kx : DX} {Q : Bool → Hp → Prop}, Stt X.K as G M s H → d G M k kx → Takes X (XWe X.K as M H G kx) →
    (∀ b H' as' M', Nx as M H as' M' H' → Hold X.K as' M' H' → k b M' → Q b H') → semT X e s H Q
structure WW (X : Cx) (e : Expr) (d : DTT) : Prop where
  run : ∀ {s : L2.St} {H : Hp} {as : AS} {G : Gm} {M : Ms} {k : Bool → Ms → Prop} {kx : DX} {Q : Bool → Hp → Prop}, Stt X.K as G M s H → d G M k kx → Takes X (XWe X.K as M H G kx) →
    (∀ b H' as' M', Nx as M H as' M' H' → Hold X.K as' M' H' → k b M' → Q b H') → semW X e s H Q
structure WA (X : Cx) (es : List Expr) (d : DTA) : Prop where
  run : ∀ {s : L2.St} {H : Hp} {as : AS} {G : Gm} {M : Ms} {k : List D → Ms → Prop} {kx : DX} {Q : List V → Hp → Prop}, Stt X.K as G M s H → d G M k kx → Takes X (XWe X.K as M H G kx) →
    (∀ vs H' as' ds M', Nx as M H as' M' H' → Hold X.K as' M' H' → repXs X.K as' (hide as' M' H') ds vs → k ds M' → Q vs H') → semA X es s H Q
/-- what is wanted behind statements -/
structure Ready (K : PySem.W.Frag) (as : AS) (M : Ms) (H : Hp) (D : DEnds) (DE : Ends) : Prop where
  nx : ∀ s' H' as' G' M', Nx as M H as' M' H' → Stt K as' G' M' s' H' → D.nx G' M' → DE.nx s' H'
  bk : ∀ s' H' as' G' M', Nx as M H as' M' H' → Stt K as' G' M' s' H' → D.bk G' M' → DE.bk s' H'
  ct : ∀ s' H' as' G' M', Nx as M H as' M' H' → Stt K as' G' M' s' H' → D.ct G' M' → DE.ct s' H'
  rt : Back K as M H D.rt DE.rt
structure W1 (X : Cx) (st : Stmt) (d : DTS) : Prop where
  run : ∀ {s : L2.St} {H : Hp} {as : AS} {G : Gm} {M : Ms} {D : DEnds} {DE : Ends}, Stt X.K as G M s H → d D G M → Takes X (XW X.K as M H D.ex) → Ready X.K as M H D DE → semS X st DE s H
structure WS (X : Cx) (ss : List Stmt) (d : DTS) : Prop where
  run : ∀ {s : L2.St} {H : Hp} {as : AS} {G : Gm} {M : Ms} {D : DEnds} {DE : Ends}, Stt X.K as G M s H → d D G M → Takes X (XW X.K as M H D.ex) → Ready X.K as M H D DE → semB X ss DE s H

section
variable {X : Cx} {K : PySem.W.Frag} {as as1 : AS} {M M1 : Ms} {H H1 : Hp} {G : Gm} {s : L2.St} {kx : DX} {k : DK} {Q : VK}
theorem XW.nx {kx : XD → Gm → Ms → Prop} (n : Nx as M H as1 M1 H1) (t : Takes X (XW K as M H kx)) : Takes X (XW K as1 M1 H1 kx) :=
  t.imp fun cls dd s' H' ⟨x, G', as', M', n', st, xc, q⟩ => ⟨x, G', as', M', n.trans n', st, xc, q⟩
theorem XW.imp {kx kx' : XD → Gm → Ms → Prop} (h : ∀ x G M, kx' x G M → kx x G M) (t : Takes X (XW K as M H kx)) : Takes X (XW K as M H kx') :=
  t.imp fun cls dd s' H' ⟨x, G', as', M', n', st, xc, q⟩ => ⟨x, G', as', M', n', st, xc, h _ _ _ q⟩
theorem Back.nx (n : Nx as M H as1 M1 H1) (b : Back K as M H k Q) : Back K as1 M1 H1 k Q := fun v H' as' d' M' n' => b v H' as' d' M' (n.trans n')
theorem Ready.step {D : DEnds} {DE : Ends} (n : Nx as M H as1 M1 H1) (r : Ready K as M H D DE) : Ready K as1 M1 H1 D DE :=
  ⟨fun s' H' as' G' M' n' => r.nx s' H' as' G' M' (n.trans n'), fun s' H' as' G' M' n' => r.bk s' H' as' G' M' (n.trans n'), fun s' H' as' G' M' n' => r.ct s' H' as' G' M' (n.trans n'), r.rt.nx n⟩
theorem repXs_nx (n : Nx as M H as1 M1 H1) {ds : List D} {vs : List V} (h : repXs K as (hide as M H) ds vs) : repXs K as1 (hide as1 M1 H1) ds vs := repXs_mono n.pre n.ex h
/-- a datum and no cell -/
@[simp] def plain : D → Bool
  | .cell _ => false
  | _ => true
theorem rep_of_plain {d : D} {v : V} (h : repX K as H d v) (p : plain d = true) : rep K H d v := by
  cases d with
  | cell i => cases p
  | _ => exact h
theorem repL_of_plain : ∀ {ds : List D} {vs : List V}, repXs K as H ds vs → ds.all plain = true → repL K H ds vs
  | [], vs, h, _ => by
    rw [repL]
    exact h
  | d :: ds, vs, ⟨v, r, e1, h1, h2⟩, p => by
    rw [List.all_cons, Bool.and_eq_true] at p
    rw [repL]
    exact ⟨v, r, e1, rep_of_plain h1 p.1, repL_of_plain h2 p.2⟩
theorem plain_of_rep {d : D} {v : V} (h : rep K H d v) : plain d = true := by
  cases d with
  | cell i =>
    rw [rep] at h
    exact h.elim
  | _ => rfl
theorem repXs_of : ∀ {ds : List D} {vs : List V}, repL K H ds vs → repXs K as H ds vs
  | [], vs, h => by
    rw [repL] at h
    exact h
  | d :: ds, vs, h => by
    rw [repL] at h
    obtain ⟨v, r, e1, h1, h2⟩ := h
    exact ⟨v, r, e1, repX_of h1, repXs_of h2⟩
theorem repXs_length : ∀ {ds : List D} {vs : List V}, repXs K as H ds vs → ds.length = vs.length
  | [], vs, h => by
    cases (show vs = [] from h)
    rfl
  | d :: ds, vs, ⟨v, r, e1, h1, h2⟩ => by
    subst e1
    simp [repXs_length h2]

/-! ### names, constants -/
def dVar (i : Nat) : DTE := fun G M k _ => match G[i]? with
  | some (some d) => k d M
  | _ => False
def dC (d : D) : DTE := fun _ M k _ => k d M
@[simp] theorem dVar_eq {i : Nat} {G : Gm} {M : Ms} {k : DK} {kx : DX} {d : D} (h : G[i]? = some (some d)) : dVar i G M k kx = k d M := by
  unfold dVar
  rw [h]
theorem we_of {e : Expr} {t : TE} {d : DTE} (h : PE X e t) (ht : ∀ {s : L2.St} {H : Hp} {as : AS} {G : Gm} {M : Ms} {k : DK} {kx : DX} {Q : VK}, Stt X.K as G M s H → d G M k kx → Takes X (XWe X.K as M H G kx) → Back X.K as M H k Q → t s H Q) : WE X e d :=
  ⟨fun st hd tk b => PE.sem h (ht st hd tk b)⟩
theorem we_var (i : Nat) {x : Str} {pos : Pos} (h : PE X (.Name x pos) (tVar i)) : WE X (.Name x pos) (dVar i) := we_of h fun {s H as G M k kx Q} st hd tk b => by
  unfold dVar at hd
  split at hd
  · rename_i d e
    obtain ⟨v, e1, e2⟩ := st.slots.2 i d e
    exact ⟨v, e1, b v H as d M Nx.refl st.hold e2 hd⟩
  · exact hd.elim
theorem we_c {e : Expr} {v : V} {d : D} (h : PE X e (tC v)) (r : ∀ K H, rep K H d v) : WE X e (dC d) := we_of h fun {s H as G M k kx Q} st hd tk b => b v H as d M Nx.refl st.hold (repX_of (r _ _)) hd
theorem we_int {i : Int} {j pos} : WE X (.Constant (.int i) j pos) (dC (.int i)) := we_c pe_int fun _ _ => by rw [rep]
theorem we_bl {b : Bool} {j pos} : WE X (.Constant (.bool b) j pos) (dC (.bl b)) := we_c pe_bl fun _ _ => by rw [rep]
theorem we_non {j pos} : WE X (.Constant .none j pos) (dC .non) := we_c pe_non fun _ _ => by rw [rep]
theorem we_str {x j pos} : WE X (.Constant (.str x) j pos) (dC (.str x)) := we_c pe_str fun _ _ => by rw [rep]
theorem we_gint {x : Str} {i : Int} {pos : Pos} (hg : Gl X x) (hm : ∃ t, X.mg x = some (.int i t)) (hd : (x == ("__debug__" : Str)) = false := by decide) : WE X (.Name x pos) (dC (.int i)) := by
  obtain ⟨t, hm⟩ := hm
  exact we_c (pe_glob (v := .int i) hg hm ⟨t, rfl⟩ hd) fun _ _ => by rw [rep]
theorem we_gcls0 {x : Str} {C : Addr} {pos : Pos} (hg : Gl X x) (hm : X.mg x = some (.ref C)) (hd : (x == ("__debug__" : Str)) = false := by decide) : True := trivial
theorem we_gcls {x : Str} {pos : Pos} (hg : Gl X x) (hm : X.mg x = some (.ref (He.ga X.K x))) (hd : (x == ("__debug__" : Str)) = false := by decide) : WE X (.Name x pos) (dC (.cls x)) := we_of (pe_glob (v := .ref (He.ga X.K x)) hg hm rfl hd) fun {s H as G M k kx Q} st hd tk b => b _ H as (.cls x) M Nx.refl st.hold (repX_of (by rw [rep])) hd
theorem we_gty {x : Str} {n : String} {pos : Pos} (hg : Gl X x) (hm : X.mg x = none) (hv : bootBuiltins x = some (.type n)) (hn : x ≠ "__name__" := by decide) (hd : (x == ("__debug__" : Str)) = false := by decide) : WE X (.Name x pos) (dC (.ty n)) :=
  we_c (pe_bltn (v := .ty n) hg hm hv rfl hn hd) fun _ _ => by rw [rep]

/-! ### operators -/
def OpD (X : Cx) (g : Value → Value → Sem Value) (f : DOp) : Prop :=
  ∀ {s : L2.St} {H : Hp} {as : AS} {G : Gm} {M : Ms} {x y : V} {dx dy : D} {k : DK} {kx : DX} {Q : VK} {pins : List (Addr × Obj)} {sh : Shared} {u v : Value}, Stt X.K as G M s H → repX X.K as (hide as M H) dx x → repX X.K as (hide as M H) dy y → f dx dy M k kx →
    Takes X (XWe X.K as M H G kx) → Back X.K as M H k Q → Inv X pins s H sh → RelV x u → RelV y v → wpAny (model X.prog X.w) X.A (g u v) (EP X pins s Q) X.xe sh
theorem opd_of {g : Value → Value → Sem Value} {f : DOp} {r : R2} (h : OpR X g r) (hr : ∀ {s : L2.St} {H : Hp} {as : AS} {G : Gm} {M : Ms} {x y : V} {dx dy : D} {k : DK} {kx : DX} {Q : VK}, Stt X.K as G M s H → repX X.K as (hide as M H) dx x → repX X.K as (hide as M H) dy y → f dx dy M k kx →
    Back X.K as M H k Q → r x y H Q) : OpD X g f := fun {s H as G M x y dx dy k kx Q pins sh u v} st rx ry hf tk b I ru rv => h pins sh s H x y u v Q I ru rv (hr st rx ry hf b)
/-- one operator, several kinds of operands -/
def fOr (f g : DOp) : DOp := fun x y M k kx => f x y M k kx ∨ g x y M k kx
theorem OpD.or {g : Value → Value → Sem Value} {f1 f2 : DOp} (h1 : OpD X g f1) (h2 : OpD X g f2) : OpD X g (fOr f1 f2) := fun {s H as G M x y dx dy k kx Q pins sh u v} st rx ry hf tk b I ru rv => by
  rcases hf with hf | hf
  · exact h1 st rx ry hf tk b I ru rv
  · exact h2 st rx ry hf tk b I ru rv
def dBin (f : DOp) (da db : DTE) : DTE := fun G M k kx => da G M (fun x M1 => db G M1 (fun y M2 => f x y M2 k kx) kx) kx
theorem bin_run {a b : Expr} {da db : DTE} {g : Value → Value → Sem Value} {f : DOp} (ho : OpD X g f) (ha : WE X a da) (hb : WE X b db) {k : DK} {pins : List (Addr × Obj)} {sh : Shared} (st : Stt X.K as G M s H) (hd : dBin f da db G M k kx) (tk : Takes X (XWe X.K as M H G kx))
    (bk : Back X.K as M H k Q) (I : Inv X pins s H sh) :
    wpAny (model X.prog X.w) X.A (eval a X.env) (fun v s₁ => wpAny (model X.prog X.w) X.A (eval b X.env) (fun u s₂ => wpAny (model X.prog X.w) X.A (g v u) (EP X pins s Q) X.xe s₂) X.xe s₁) X.xe sh := by
  refine thn (ha.run (Q := fun x H1 => ∃ as1 d1 M1, Nx as M H as1 M1 H1 ∧ Hold X.K as1 M1 H1 ∧ repX X.K as1 (hide as1 M1 H1) d1 x ∧ db G M1 (fun y M2 => f d1 y M2 k kx) kx) st hd tk (fun v H' as' d' M' n h r q => ⟨as', d', M', n, h, r, q⟩) pins sh I) fun v s1 ⟨x, H1, I1, r1, as1, d1, M1, n1, h1, rx, q1⟩ => ?_
  refine thn (hb.run (Q := fun y H2 => ∃ as2 d2 M2, Nx as1 M1 H1 as2 M2 H2 ∧ Hold X.K as2 M2 H2 ∧ repX X.K as2 (hide as2 M2 H2) d2 y ∧ f d1 d2 M2 k kx) (st.nx n1 h1) q1 (XW.nx n1 tk) (fun v H' as' d' M' n h r q => ⟨as', d', M', n, h, r, q⟩) pins s1 I1) fun u s2 ⟨y, H2, I2, r2, as2, d2, M2, n2, h2, ry, q2⟩ => ?_
  exact ho (st.nx (n1.trans n2) h2) (repX_nx n2 rx) ry q2 (XW.nx (n1.trans n2) tk) (bk.nx (n1.trans n2)) I2 r1 r2
theorem we_bin {a b : Expr} {da db : DTE} {op : Operator} {f : DOp} {pos : Pos} (ho : OpD X (binaryOp op) f) (ha : WE X a da) (hb : WE X b db) : WE X (.BinOp a op b pos) (dBin f da db) :=
  ⟨fun st hd tk bk pins sh I => wpAny_BinOp (bin_run ho ha hb st hd tk bk I)⟩
theorem we_cmp {a b : Expr} {da db : DTE} {op : CmpOp} {f : DOp} {pos : Pos} (ho : OpD X (compareOp op) f) (ha : WE X a da) (hb : WE X b db) (hm : behindInMarks op b = false) : WE X (.Compare a [op] [b] pos) (dBin f da db) :=
  ⟨fun st hd tk bk pins sh I => wpAny_Compare1 (bin_run ho ha hb st hd tk bk I) hm⟩
/-- a test that is a truth value -/
def dB (da : DTE) : DTT := fun G M k kx => da G M (fun d M' => match d with
  | .bl b => k b M'
  | _ => False) kx
theorem back_b {kb : Bool → Ms → Prop} {Qb : Bool → Hp → Prop} (h : ∀ b H' as' M', Nx as M H as' M' H' → Hold K as' M' H' → kb b M' → Qb b H') :
    Back K as M H (fun d M' => match d with | .bl b => kb b M' | _ => False) (fun x H' => ∃ c, x = .bl c ∧ Qb c H') := fun v H' as' d' M' n hh r q => by
  cases d' with
  | bl b =>
    have e : v = .bl b := by
      have r' : rep K (hide as' M' H') (.bl b) v := r
      rwa [rep] at r'
    exact ⟨b, e, h b H' as' M' n hh q⟩
  | _ => exact q.elim
theorem wt_cmp {a b : Expr} {da db : DTE} {op : CmpOp} {f : DOp} {pos : Pos} (ho : OpD X (compareOp op) f) (ha : WE X a da) (hb : WE X b db) (hm : behindInMarks op b = false) : WT X (.Compare a [op] [b] pos) (dB (dBin f da db)) :=
  ⟨fun {s H as G M k kx Q} st hd tk bk pins sh I => wpAny_isTrue_Compare1 (thn (bin_run ho ha hb st hd tk (back_b bk) I) fun v s1 h1 => thn h1 fun u s2 h2 => thn h2 fun d s3 ⟨x, H3, I3, r3, c, e, q⟩ => by
    subst e
    cases r3
    exact wpAny_truthy_bool ⟨H3, I3, q⟩) hm⟩
def UnD (X : Cx) (g : Value → Sem Value) (f : DUn) : Prop :=
  ∀ {s : L2.St} {H : Hp} {as : AS} {G : Gm} {M : Ms} {x : V} {dx : D} {k : DK} {kx : DX} {Q : VK} {pins : List (Addr × Obj)} {sh : Shared} {u : Value}, Stt X.K as G M s H → repX X.K as (hide as M H) dx x → f dx M k kx →
    Takes X (XWe X.K as M H G kx) → Back X.K as M H k Q → Inv X pins s H sh → RelV x u → wpAny (model X.prog X.w) X.A (g u) (EP X pins s Q) X.xe sh
theorem und_of {g : Value → Sem Value} {f : DUn} {r : V → Hp → VK → Prop} (h : UnR X g r) (hr : ∀ {s : L2.St} {H : Hp} {as : AS} {G : Gm} {M : Ms} {x : V} {dx : D} {k : DK} {kx : DX} {Q : VK}, Stt X.K as G M s H → repX X.K as (hide as M H) dx x → f dx M k kx →
    Back X.K as M H k Q → r x H Q) : UnD X g f := fun {s H as G M x dx k kx Q pins sh u} st rx hf tk b I ru => h pins sh s H x u Q I ru (hr st rx hf b)
def unOr (f g : DUn) : DUn := fun x M k kx => f x M k kx ∨ g x M k kx
theorem UnD.or {g : Value → Sem Value} {f1 f2 : DUn} (h1 : UnD X g f1) (h2 : UnD X g f2) : UnD X g (unOr f1 f2) := fun {s H as G M x dx k kx Q pins sh u} st rx hf tk b I ru => by
  rcases hf with hf | hf
  · exact h1 st rx hf tk b I ru
  · exact h2 st rx hf tk b I ru
def dUn (f : DUn) (da : DTE) : DTE := fun G M k kx => da G M (fun x M1 => f x M1 k kx) kx
theorem un_run {a : Expr} {da : DTE} {g : Value → Sem Value} {f : DUn} (ho : UnD X g f) (ha : WE X a da) {k : DK} {pins : List (Addr × Obj)} {sh : Shared} (st : Stt X.K as G M s H) (hd : dUn f da G M k kx) (tk : Takes X (XWe X.K as M H G kx))
    (bk : Back X.K as M H k Q) (I : Inv X pins s H sh) :
    wpAny (model X.prog X.w) X.A (eval a X.env) (fun v s₁ => wpAny (model X.prog X.w) X.A (g v) (EP X pins s Q) X.xe s₁) X.xe sh := by
  refine thn (ha.run (Q := fun x H1 => ∃ as1 d1 M1, Nx as M H as1 M1 H1 ∧ Hold X.K as1 M1 H1 ∧ repX X.K as1 (hide as1 M1 H1) d1 x ∧ f d1 M1 k kx) st hd tk (fun v H' as' d' M' n h r q => ⟨as', d', M', n, h, r, q⟩) pins sh I) fun v s1 ⟨x, H1, I1, r1, as1, d1, M1, n1, h1, rx, q1⟩ => ?_
  exact ho (st.nx n1 h1) rx q1 (XW.nx n1 tk) (bk.nx n1) I1 r1
theorem we_un {a : Expr} {da : DTE} {op : UnaryOp} {f : DUn} {pos : Pos} (ho : UnD X (unaryOp op) f) (ha : WE X a da) : WE X (.UnaryOp op a pos) (dUn f da) :=
  ⟨fun st hd tk bk pins sh I => UnaryOp_ (un_run ho ha st hd tk bk I)⟩

/-! ### ints -/
def fII (g : Int → Int → Option D) : DOp := fun x y M k _ => match x, y with
  | .int i, .int j => (match g i j with
    | some d => k d M
    | none => False)
  | _, _ => False
theorem repX_int {as : AS} {i : Int} {v : V} : repX K as H (.int i) v ↔ v = .int i := by
  show rep K H (.int i) v ↔ _
  rw [rep]
theorem repX_bl {as : AS} {b : Bool} {v : V} : repX K as H (.bl b) v ↔ v = .bl b := by
  show rep K H (.bl b) v ↔ _
  rw [rep]
theorem repX_non {as : AS} {v : V} : repX K as H .non v ↔ v = .non := by
  show rep K H .non v ↔ _
  rw [rep]
theorem repX_str {as : AS} {b : Str} {v : V} : repX K as H (.str b) v ↔ v = .str b := by
  show rep K H (.str b) v ↔ _
  rw [rep]
theorem opd_ii {g : Value → Value → Sem Value} {h : Int → Int → Option D} {C : Int → Int → Prop} {o : Int → Int → V} (ho : OpR X g (rI C o)) (hc : ∀ i j d, h i j = some d → C i j ∧ ∀ K H, rep K H d (o i j)) : OpD X g (fII h) :=
  opd_of ho fun {s H as G M x y dx dy k kx Q} st rx ry hf b => by
    unfold fII at hf
    split at hf
    · rename_i i j
      split at hf
      · rename_i d e
        obtain ⟨h1, h2⟩ := hc i j d e
        exact ⟨i, j, repX_int.mp rx, repX_int.mp ry, h1, b _ H as d M Nx.refl st.hold (repX_of (h2 _ _)) hf⟩
      · exact hf.elim
    · exact hf.elim
theorem opr_i0 {g : Value → Value → Sem Value} {o : Int → Int → V} (h : OpR X g (rI0 o)) : OpR X g (rI (fun _ _ => True) o) := fun pins s σ H x y v u Q I rx ry ⟨i, j, e1, e2, _, q⟩ => h pins s σ H x y v u Q I rx ry ⟨i, j, e1, e2, q⟩
theorem rep_int' {K : PySem.W.Frag} {H : Hp} {i : Int} : rep K H (.int i) (.int i) := by rw [rep]
theorem rep_bl' {K : PySem.W.Frag} {H : Hp} {i : Bool} : rep K H (.bl i) (.bl i) := by rw [rep]
theorem opd_i0 {g : Value → Value → Sem Value} {o : Int → Int → V} {h : Int → Int → D} (ho : OpR X g (rI0 o)) (hr : ∀ i j K H, rep K H (h i j) (o i j)) : OpD X g (fII fun i j => some (h i j)) :=
  opd_ii (opr_i0 ho) fun i j d e => by
    cases e
    exact ⟨True.intro, hr i j⟩
def fAdd : DOp := fII fun i j => some (.int (i + j))
def fSub : DOp := fII fun i j => some (.int (i - j))
def smallI (i : Int) : Bool := decide (-(2 ^ 64) < i ∧ i < 2 ^ 64)
def fMul : DOp := fII fun i j => if smallI i || smallI j then some (.int (i * j)) else none
def fMod : DOp := fII fun i j => if 0 < j then some (.int (i % j)) else none
def fDiv : DOp := fII fun i j => if 0 < j ∧ j < 18446744073709551616 then some (.int (i / j)) else none
def fPow : DOp := fII fun i j => if 0 ≤ j ∧ j ≤ 1000000 ∧ i.natAbs < 2 ^ 64 then some (.int (i ^ j.toNat)) else none
def fShl : DOp := fII fun i j => if 0 ≤ j ∧ j ≤ 1000000 ∧ i.natAbs < 2 ^ 64 then some (.int (i * 2 ^ j.toNat)) else none
def fShr : DOp := fII fun i j => if 0 ≤ j then some (.int (i / 2 ^ j.toNat)) else none
def fBand : DOp := fII fun i j => some (.int (Builtin.bitAnd i j))
def fBor : DOp := fII fun i j => some (.int (Builtin.bitOr i j))
def fBxor : DOp := fII fun i j => some (.int (Builtin.bitXor i j))
def fLt : DOp := fII fun i j => some (.bl (decide (i < j)))
def fLe : DOp := fII fun i j => some (.bl (decide (i ≤ j)))
def fGt : DOp := fII fun i j => some (.bl (decide (j < i)))
def fGe : DOp := fII fun i j => some (.bl (decide (j ≤ i)))
theorem od_add : OpD X (binaryOp .Add) fAdd := opd_i0 op_add fun _ _ _ _ => rep_int'
theorem od_sub : OpD X (binaryOp .Sub) fSub := opd_i0 op_sub fun _ _ _ _ => rep_int'
theorem od_mul : OpD X (binaryOp .Mult) fMul := opd_ii op_mul fun i j d e => by
  split at e
  · rename_i c
    cases e
    rw [Bool.or_eq_true] at c
    exact ⟨c.imp (fun z => of_decide_eq_true z) fun z => of_decide_eq_true z, fun _ _ => rep_int'⟩
  · cases e
theorem od_mod : OpD X (binaryOp .Mod) fMod := opd_ii op_mod fun i j d e => by
  split at e
  · rename_i c
    cases e
    exact ⟨c, fun _ _ => rep_int'⟩
  · cases e
theorem od_div : OpD X (binaryOp .FloorDiv) fDiv := opd_ii op_fdivW fun i j d e => by
  split at e
  · rename_i c
    cases e
    exact ⟨wide_div (b := 64) c.1 (by have := c.2; omega) (by decide) (by decide), fun _ _ => rep_int'⟩
  · cases e
theorem od_pow : OpD X (binaryOp .Pow) fPow := opd_ii op_pow fun i j d e => by
  split at e
  · rename_i c
    cases e
    exact ⟨c, fun _ _ => rep_int'⟩
  · cases e
theorem od_shl : OpD X (binaryOp .LShift) fShl := opd_ii op_shl fun i j d e => by
  split at e
  · rename_i c
    cases e
    exact ⟨c, fun _ _ => rep_int'⟩
  · cases e
theorem od_shr : OpD X (binaryOp .RShift) fShr := opd_ii op_shr fun i j d e => by
  split at e
  · rename_i c
    cases e
    exact ⟨c, fun _ _ => rep_int'⟩
  · cases e
theorem od_band : OpD X (binaryOp .BitAnd) fBand := opd_i0 op_and fun _ _ _ _ => rep_int'
theorem od_bor : OpD X (binaryOp .BitOr) fBor := opd_i0 op_or fun _ _ _ _ => rep_int'
theorem od_bxor : OpD X (binaryOp .BitXor) fBxor := opd_i0 op_xor fun _ _ _ _ => rep_int'
theorem od_lt : OpD X (compareOp .Lt) fLt := opd_i0 op_lt fun _ _ _ _ => rep_bl'
theorem od_le : OpD X (compareOp .LtE) fLe := opd_i0 op_le fun _ _ _ _ => rep_bl'
theorem od_gt : OpD X (compareOp .Gt) fGt := opd_i0 op_gt fun _ _ _ _ => rep_bl'
theorem od_ge : OpD X (compareOp .GtE) fGe := opd_i0 op_ge fun _ _ _ _ => rep_bl'
def fNeg : DUn := fun x M k _ => match x with
  | .int i => k (.int (-i)) M
  | _ => False
theorem ud_neg : UnD X (unaryOp .USub) fNeg := und_of un_neg fun {s H as G M x dx k kx Q} st rx hf b => by
  unfold fNeg at hf
  split at hf
  · rename_i i
    exact ⟨i, repX_int.mp rx, b _ H as _ M Nx.refl st.hold (repX_int.mpr rfl) hf⟩
  · exact hf.elim

/-! ### == of scalars, is -/
@[simp] def scD : D → D → Option Bool
  | .int i, .int j => some (decide (i = j))
  | .bl i, .bl j => some (i == j)
  | .str i, .str j => some (decide (i = j))
  | .non, .non => some true
  | .non, .int _ => some false
  | .int _, .non => some false
  | .non, .bl _ => some false
  | .bl _, .non => some false
  | .non, .str _ => some false
  | .str _, .non => some false
  | .int _, .str _ => some false
  | .str _, .int _ => some false
  | .bl _, .str _ => some false
  | .str _, .bl _ => some false
  | _, _ => none
theorem scD_ok {as : AS} {x y : D} {u v : V} {b : Bool} (h : scD x y = some b) (hx : repX K as H x u) (hy : repX K as H y v) : scal u v = true ∧ decide (u = v) = b := by
  cases x <;> cases y <;> simp only [scD, Option.some.injEq, reduceCtorEq] at h <;> simp only [repX_int, repX_bl, repX_str, repX_non] at hx hy <;> subst hx hy h <;> refine ⟨rfl, ?_⟩ <;> first
    | (simp; done)
    | exact dec_bl
    | (rename_i i j; by_cases e : i = j <;> simp [e])
def fEqS : DOp := fun x y M k _ => match scD x y with
  | some b => k (.bl b) M
  | none => False
def fNeS : DOp := fun x y M k _ => match scD x y with
  | some b => k (.bl (!b)) M
  | none => False
theorem od_eqS : OpD X (compareOp .Eq) fEqS := opd_of op_eq fun {s H as G M x y dx dy k kx Q} st rx ry hf b => by
  unfold fEqS at hf
  split at hf
  · rename_i c e
    obtain ⟨h1, h2⟩ := scD_ok e rx ry
    exact ⟨h1, b _ H as _ M Nx.refl st.hold (repX_bl.mpr (by rw [h2])) hf⟩
  · exact hf.elim
theorem od_neS : OpD X (compareOp .NotEq) fNeS := opd_of op_ne fun {s H as G M x y dx dy k kx Q} st rx ry hf b => by
  unfold fNeS at hf
  split at hf
  · rename_i c e
    obtain ⟨h1, h2⟩ := scD_ok e rx ry
    exact ⟨h1, b _ H as _ M Nx.refl st.hold (repX_bl.mpr (by rw [h2])) hf⟩
  · exact hf.elim
theorem op_isAny : OpR X (compareOp .Is) (fun x y H Q => ∃ b, y = .bl b ∧ Q (.bl (decide (x = .bl b))) H) := by
  intro pins s σ H x y v u Q I rx ry h
  obtain ⟨b, rfl, q⟩ := h
  cases (show u = Value.bool b from ry)
  have e : isSame v (.bool b) = pure (v == Value.bool b) := by
    cases x <;> first
      | (cases rx; rfl)
      | (obtain ⟨t, rfl⟩ := rx; rfl)
  have e2 : (v == Value.bool b) = decide (x = .bl b) := by
    cases x with
    | bl c =>
      cases (show v = Value.bool c from rx)
      by_cases z : c = b <;> simp [z]
    | _ => first
      | (cases rx; rfl)
      | (obtain ⟨t, rfl⟩ := rx; rfl)
  show wpAny _ _ (isSame v (.bool b) >>= fun r => pure (Value.bool r)) _ _ _
  rw [e]
  refine wpAny_bind (wpAny_pure (wpAny_pure ?_))
  exact ⟨.bl (decide (x = .bl b)), H, I, by rw [e2]; rfl, q⟩
/-- x is None, x is True -/
@[simp] def isD : D → D → Option Bool
  | .non, .non => some true
  | _, .non => some false
  | .bl a, .bl b => some (a == b)
  | _, .bl b => some false
  | _, _ => none
theorem repX_ne_non {as : AS} {d : D} {v : V} (h : repX K as H d v) : (decide (v = V.non)) = (match d with | .non => true | .raw w => decide (w = V.non) | _ => false) := by
  cases d with
  | cell i =>
    obtain ⟨a, _, rfl⟩ := h
    rfl
  | non => rw [repX_non] at h; subst h; rfl
  | bl b => rw [repX_bl] at h; subst h; rfl
  | int b => rw [repX_int] at h; subst h; rfl
  | str b => rw [repX_str] at h; subst h; rfl
  | ty b =>
    have h : rep K H (.ty b) v := h
    rw [rep] at h
    subst h
    rfl
  | raw b =>
    have h : rep K H (.raw b) v := h
    rw [rep] at h
    subst h
    rfl
  | cls b =>
    have h : rep K H (.cls b) v := h
    rw [rep] at h
    subst h
    rfl
  | xo a dd C ns ds =>
    have h : rep K H (.xo a dd C ns ds) v := h
    rw [rep] at h
    obtain ⟨rfl, _⟩ := h
    rfl
  | tup ds =>
    have h : rep K H (.tup ds) v := h
    rw [rep] at h
    obtain ⟨a, _, rfl, _⟩ := h
    rfl
  | lst ds =>
    have h : rep K H (.lst ds) v := h
    rw [rep] at h
    obtain ⟨a, _, rfl, _⟩ := h
    rfl
  | rl ds =>
    have h : rep K H (.rl ds) v := h
    rw [rep] at h
    obtain ⟨a, _, rfl, _⟩ := h
    rfl
  | ins C ns ds =>
    have h : rep K H (.ins C ns ds) v := h
    rw [rep] at h
    obtain ⟨a, _, _, rfl, _⟩ := h
    rfl
theorem repX_ne_bl {as : AS} {d : D} {v : V} {c : Bool} (h : repX K as H d v) : (decide (v = V.bl c)) = (match d with | .bl b => b == c | .raw w => decide (w = V.bl c) | _ => false) := by
  cases d with
  | cell i =>
    obtain ⟨a, _, rfl⟩ := h
    rfl
  | non => rw [repX_non] at h; subst h; rfl
  | bl b => rw [repX_bl] at h; subst h; exact dec_bl
  | int b => rw [repX_int] at h; subst h; rfl
  | str b => rw [repX_str] at h; subst h; rfl
  | ty b =>
    have h : rep K H (.ty b) v := h
    rw [rep] at h
    subst h
    rfl
  | raw b =>
    have h : rep K H (.raw b) v := h
    rw [rep] at h
    subst h
    rfl
  | cls b =>
    have h : rep K H (.cls b) v := h
    rw [rep] at h
    subst h
    rfl
  | xo a dd C ns ds =>
    have h : rep K H (.xo a dd C ns ds) v := h
    rw [rep] at h
    obtain ⟨rfl, _⟩ := h
    rfl
  | tup ds =>
    have h : rep K H (.tup ds) v := h
    rw [rep] at h
    obtain ⟨a, _, rfl, _⟩ := h
    rfl
  | lst ds =>
    have h : rep K H (.lst ds) v := h
    rw [rep] at h
    obtain ⟨a, _, rfl, _⟩ := h
    rfl
  | rl ds =>
    have h : rep K H (.rl ds) v := h
    rw [rep] at h
    obtain ⟨a, _, rfl, _⟩ := h
    rfl
  | ins C ns ds =>
    have h : rep K H (.ins C ns ds) v := h
    rw [rep] at h
    obtain ⟨a, _, _, rfl, _⟩ := h
    rfl
def notRaw : D → Bool
  | .raw _ => false
  | _ => true
/-- x is None | True | False -/
def fIs : DOp := fun x y M k _ => notRaw x = true ∧ match isD x y with
  | some b => k (.bl b) M
  | none => False
def fIsNot : DOp := fun x y M k _ => notRaw x = true ∧ match isD x y with
  | some b => k (.bl (!b)) M
  | none => False
theorem od_is : OpD X (compareOp .Is) fIs := by
  intro s H as G M x y dx dy k kx Q pins sh u v st rx ry hf tk b I ru rv
  obtain ⟨nr, hf⟩ := hf
  cases dy with
  | non =>
    refine op_isN pins sh s H x y u v Q I ru rv ⟨repX_non.mp ry, ?_⟩
    rw [repX_ne_non rx]
    cases dx <;> first
      | exact b _ H as _ M Nx.refl st.hold (repX_bl.mpr rfl) hf
      | cases nr
  | bl c =>
    refine op_isAny pins sh s H x y u v Q I ru rv ⟨c, repX_bl.mp ry, ?_⟩
    rw [repX_ne_bl rx]
    cases dx <;> first
      | exact b _ H as _ M Nx.refl st.hold (repX_bl.mpr rfl) hf
      | cases nr
  | _ => cases dx <;> exact hf.elim
theorem od_isNotN : OpD X (compareOp .IsNot) (fun x y M k kx => y = .non ∧ fIsNot x y M k kx) := by
  intro s H as G M x y dx dy k kx Q pins sh u v st rx ry hf tk b I ru rv
  obtain ⟨rfl, nr, hf⟩ := hf
  refine op_notN pins sh s H x y u v Q I ru rv ⟨repX_non.mp ry, ?_⟩
  rw [repX_ne_non rx]
  cases dx <;> first
    | exact b _ H as _ M Nx.refl st.hold (repX_bl.mpr rfl) hf
    | cases nr
end
end DL

/-! DLc: truth, tests, arguments, displays, subscripts, built-ins; statements, loops; defs. -/
namespace DL
open PySem PySem.Spec PyProof.Rows L2 Evl
open Classical

section
variable {X : Cx} {K : PySem.W.Frag} {as as1 : AS} {M M1 : Ms} {H H1 : Hp} {G : Gm} {s : L2.St} {kx : DX} {k : DK} {Q : VK} {a b c e : Expr} {da db dc : DTE} {ta tb tc : DTT} {pos : Pos}
theorem eback {k : DK} {Q : VK} (h : ∀ x H1 as1 d1 M1, Nx as M H as1 M1 H1 → Hold K as1 M1 H1 → repX K as1 (hide as1 M1 H1) d1 x → k d1 M1 → Q x H1) : Back K as M H k Q := h

/-! ### and, or, not; tests -/
def dAndV (da db : DTE) : DTE := fun G M k kx => da G M (fun x M1 => match x with
  | .bl true => db G M1 k kx
  | .bl false => k (.bl false) M1
  | _ => False) kx
def dOrV (da db : DTE) : DTE := fun G M k kx => da G M (fun x M1 => match x with
  | .bl true => k (.bl true) M1
  | .bl false => db G M1 k kx
  | _ => False) kx
def dNotV (da : DTE) : DTE := fun G M k kx => da G M (fun x M1 => match x with
  | .bl b => k (.bl (!b)) M1
  | _ => False) kx
theorem we_one {op : BoolOp} (h : WE X a da) : WE X (.BoolOp op [a] pos) da := ⟨fun st hd tk bk => PE.sem (pe_one pe_sem) (h.run st hd tk bk)⟩
theorem we_and {rest : List Expr} (ha : WE X a da) (hb : WE X (.BoolOp .And (b :: rest) pos) db) : WE X (.BoolOp .And (a :: b :: rest) pos) (dAndV da db) := ⟨fun {s H as G M k kx Q} st hd tk bk =>
  PE.sem (pe_and pe_sem pe_sem) (ha.run st hd tk fun v H' as' d' M' n h r q => by
    cases d' with
    | bl c =>
      refine ⟨c, repX_bl.mp r, ?_⟩
      cases c with
      | true => exact hb.run (st.nx n h) q (XW.nx n tk) (bk.nx n)
      | false => exact bk _ H' as' _ M' n h (repX_bl.mpr rfl) q
    | _ => exact q.elim)⟩
theorem we_or {rest : List Expr} (ha : WE X a da) (hb : WE X (.BoolOp .Or (b :: rest) pos) db) : WE X (.BoolOp .Or (a :: b :: rest) pos) (dOrV da db) := ⟨fun {s H as G M k kx Q} st hd tk bk =>
  PE.sem (pe_or pe_sem pe_sem) (ha.run st hd tk fun v H' as' d' M' n h r q => by
    cases d' with
    | bl c =>
      refine ⟨c, repX_bl.mp r, ?_⟩
      cases c with
      | false => exact hb.run (st.nx n h) q (XW.nx n tk) (bk.nx n)
      | true => exact bk _ H' as' _ M' n h (repX_bl.mpr rfl) q
    | _ => exact q.elim)⟩
theorem we_not (ha : WE X a da) : WE X (.UnaryOp .Not a pos) (dNotV da) := ⟨fun {s H as G M k kx Q} st hd tk bk =>
  PE.sem (pe_not pe_sem) (ha.run st hd tk fun v H' as' d' M' n h r q => by
    cases d' with
    | bl c => exact ⟨c, repX_bl.mp r, bk _ H' as' _ M' n h (repX_bl.mpr rfl) q⟩
    | _ => exact q.elim)⟩
def dAnd (t u : DTT) : DTT := fun G M k kx => t G M (fun b M1 => if b = true then u G M1 k kx else k false M1) kx
def dOr (t u : DTT) : DTT := fun G M k kx => t G M (fun b M1 => if b = true then k true M1 else u G M1 k kx) kx
def dNot (t : DTT) : DTT := fun G M k kx => t G M (fun b M1 => k (!b) M1) kx
theorem ww_and1 (h : WT X a ta) : WW X (.BoolOp .And [a] pos) ta := ⟨fun st hd tk bk => PW.sem (pw_and1 pt_sem) (h.run st hd tk bk)⟩
theorem ww_or1 (h : WT X a ta) : WW X (.BoolOp .Or [a] pos) ta := ⟨fun st hd tk bk => PW.sem (pw_or1 pt_sem) (h.run st hd tk bk)⟩
theorem ww_and {rest : List Expr} (ha : WT X a ta) (hb : WW X (.BoolOp .And (b :: rest) pos) tb) : WW X (.BoolOp .And (a :: b :: rest) pos) (dAnd ta tb) := ⟨fun {s H as G M k kx Q} st hd tk bk =>
  PW.sem (pw_and pt_sem pw_sem) (ha.run (Q := fun c H1 => if c = true then semW X (.BoolOp .And (b :: rest) pos) s H1 Q else Q false H1) st hd tk fun c H' as' M' n h q => by
    cases c with
    | true => exact hb.run (st.nx n h) q (XW.nx n tk) fun b' H2 as2 M2 n2 => bk b' H2 as2 M2 (n.trans n2)
    | false => exact bk false H' as' M' n h q)⟩
theorem ww_or {rest : List Expr} (ha : WT X a ta) (hb : WW X (.BoolOp .Or (b :: rest) pos) tb) : WW X (.BoolOp .Or (a :: b :: rest) pos) (dOr ta tb) := ⟨fun {s H as G M k kx Q} st hd tk bk =>
  PW.sem (pw_or pt_sem pw_sem) (ha.run (Q := fun c H1 => if c = true then Q true H1 else semW X (.BoolOp .Or (b :: rest) pos) s H1 Q) st hd tk fun c H' as' M' n h q => by
    cases c with
    | true => exact bk true H' as' M' n h q
    | false => exact hb.run (st.nx n h) q (XW.nx n tk) fun b' H2 as2 M2 n2 => bk b' H2 as2 M2 (n.trans n2))⟩
theorem WW.wt (h : WW X e ta) : WT X e ta := ⟨fun st hd tk bk => fun pins sh I => (h.run st hd tk bk) _ pins sh I⟩
theorem wt_not (ha : WT X a ta) : WT X (.UnaryOp .Not a pos) (dNot ta) := ⟨fun {s H as G M k kx Q} st hd tk bk =>
  PT.sem (pt_not pt_sem) (ha.run (Q := fun c H1 => Q (!c) H1) st hd tk fun c H' as' M' n h q => bk (!c) H' as' M' n h q)⟩
theorem wt_val (h : WE X e da) (he : ∀ whole, isTrue e X.env whole = (do let v ← whole; standAt e.pos; holding [v] (truthy v)) := by intro _; rfl) : WT X e (dB da) := ⟨fun {s H as G M k kx Q} st hd tk bk =>
  PT.sem (pt_val pe_sem he) (h.run st hd tk (back_b bk))⟩
/-- a list or tuple or cell, its items -/
def seqD (M : Ms) : D → Option (List D)
  | .lst ds => some ds
  | .tup ds => some ds
  | .rl ds => some ds
  | .cell i => (match M[i]? with
    | some (.ml ds) => some ds
    | _ => none)
  | _ => none
@[simp] theorem seqD_lst {ds : List D} : seqD M (.lst ds) = some ds := rfl
@[simp] theorem seqD_tup {ds : List D} : seqD M (.tup ds) = some ds := rfl
theorem seqD_ceq {i : Nat} : seqD M (.cell i) = (match M[i]? with
    | some (.ml ds) => some ds
    | _ => none) := rfl
theorem seqD_cell {i : Nat} {ds : List D} (h : M[i]? = some (.ml ds)) : seqD M (.cell i) = some ds := by
  rw [seqD_ceq, h]
theorem seqD_inv {i : Nat} {ds : List D} (h : seqD M (.cell i) = some ds) : M[i]? = some (.ml ds) := by
  rw [seqD_ceq] at h
  cases e : M[i]? with
  | none => rw [e] at h; cases h
  | some mo =>
    rw [e] at h
    cases mo with
    | ml es => cases h; rfl
    | _ => cases h
theorem hide_l {xs : List V} {p : Addr} (h : hide as M H p = some (.lst xs)) : SqL K H p xs := SqL.of (hide_ex _ _ h)
theorem hide_t {xs : List V} {p : Addr} (h : SqT K (hide as M H) p xs) : SqT K H p xs := ex_t hide_ex h
theorem seq_at {d : D} {ds : List D} {v : V} (hh : Hold K as M H) (h : seqD M d = some ds) (r : repX K as (hide as M H) d v) :
    ∃ p vs, v = .ref p ∧ repL K (hide as M H) ds vs ∧ ((∃ xs, d = .lst xs ∧ hide as M H p = some (.lst vs)) ∨ (∃ xs, d = .tup xs ∧ SqT K (hide as M H) p vs) ∨ (∃ i, d = .cell i ∧ as.l[i]? = some p ∧ M[i]? = some (.ml ds) ∧ H p = some (.lst vs)) ∨ ∃ xs, d = .rl xs ∧ SqL K H p vs) := by
  cases d with
  | lst xs =>
    cases h
    have r : rep K (hide as M H) (.lst ds) v := r
    rw [rep] at r
    obtain ⟨p, vs, e1, e2, e3⟩ := r
    exact ⟨p, vs, e1, e3, Or.inl ⟨_, rfl, e2⟩⟩
  | tup xs =>
    cases h
    have r : rep K (hide as M H) (.tup ds) v := r
    rw [rep] at r
    obtain ⟨p, vs, e1, e2, e3⟩ := r
    exact ⟨p, vs, e1, e3, Or.inr (Or.inl ⟨_, rfl, e2⟩)⟩
  | cell i =>
    obtain ⟨p, e1, e2⟩ := r
    have hm : M[i]? = some (.ml ds) := seqD_inv h
    obtain ⟨p', ho, q1, q2, vs, q3, q4⟩ := hh.cel i _ hm (fun z => nomatch z)
    rw [e1] at q1
    cases q1
    exact ⟨p, vs, e2, q4, Or.inr (Or.inr (Or.inl ⟨i, rfl, e1, hm, by rw [q2, q3]⟩))⟩
  | rl xs =>
    cases h
    have r : rep K (hide as M H) (.rl ds) v := r
    rw [rep] at r
    obtain ⟨p, vs, e1, e2, e3⟩ := r
    exact ⟨p, vs, e1, e3, Or.inr (Or.inr (Or.inr ⟨_, rfl, ex_l hide_ex e2⟩))⟩
  | _ => cases h
theorem seq_rd {d : D} {ds : List D} {v : V} (hh : Hold K as M H) (h : seqD M d = some ds) (r : repX K as (hide as M H) d v) :
    ∃ p vs, v = .ref p ∧ repL K (hide as M H) ds vs ∧ (SqL K H p vs ∨ SqT K H p vs) := by
  obtain ⟨p, vs, e1, e2, e3⟩ := seq_at hh h r
  refine ⟨p, vs, e1, e2, ?_⟩
  rcases e3 with ⟨_, _, q⟩ | ⟨_, _, q⟩ | ⟨i, _, _, _, q⟩ | ⟨_, _, q⟩
  · exact Or.inl (hide_l q)
  · exact Or.inr (hide_t q)
  · exact Or.inl (SqL.of q)
  · exact Or.inl q
/-- as seqD, and what may hold cells -/
def seqX (M : Ms) (d : D) : Option (List D) := match d with
  | .cell i => (match M[i]? with
    | some (.ml ds) => some ds
    | some (.mx _ ds) => some ds
    | _ => none)
  | d => seqD M d
theorem seqX_ceq {i : Nat} : seqX M (.cell i) = (match M[i]? with
    | some (.ml ds) => some ds
    | some (.mx _ ds) => some ds
    | _ => none) := rfl
theorem seqX_of {d : D} {ds : List D} (h : seqD M d = some ds) : seqX M d = some ds := by
  cases d with
  | cell i =>
    have e := seqD_inv h
    unfold seqX
    simp only [e]
  | _ => exact h
theorem seqX_mx {i : Nat} {tp : Bool} {ds : List D} (h : M[i]? = some (.mx tp ds)) : seqX M (.cell i) = some ds := by
  unfold seqX
  simp only [h]
theorem seqX_rd {d : D} {ds : List D} {v : V} (hh : Hold K as M H) (h : seqX M d = some ds) (r : repX K as (hide as M H) d v) :
    ∃ p vs, v = .ref p ∧ repXs K as (hide as M H) ds vs ∧ (SqL K H p vs ∨ SqT K H p vs) := by
  have go : seqD M d = some ds → ∃ p vs, v = .ref p ∧ repXs K as (hide as M H) ds vs ∧ (SqL K H p vs ∨ SqT K H p vs) := fun h => by
    obtain ⟨p, vs, e1, e2, e3⟩ := seq_rd hh h r
    exact ⟨p, vs, e1, repXs_of e2, e3⟩
  cases d with
  | cell i =>
    unfold seqX at h
    simp only at h
    split at h
    · rename_i es e
      cases h
      exact go (seqD_cell e)
    · rename_i tp es e
      cases h
      obtain ⟨p, e1, rfl⟩ := r
      obtain ⟨p', ho, q1, q2, vs, q3, q4, _⟩ := hh.cel i _ e (fun z => nomatch z)
      rw [e1] at q1
      cases q1
      refine ⟨p, vs, rfl, q4, ?_⟩
      cases tp with
      | true => exact Or.inr (SqT.of (by rw [q2, q3]; rfl))
      | false => exact Or.inl (SqL.of (by rw [q2, q3]; rfl))
    · cases h
  | _ => exact go h
def truD (M : Ms) (d : D) : Option Bool := match d with
  | .non => some false
  | .bl b => some b
  | .int i => some (i != 0)
  | .str x => if x.length ≤ 16777216 then some ((x.length : Int) != 0) else none
  | d => (seqD M d).map fun ds => !ds.isEmpty
theorem isEmpty_repL {ds : List D} {vs : List V} (h : repL K H ds vs) : ds.isEmpty = vs.isEmpty := by
  have := repL_length h
  cases ds <;> cases vs <;> simp_all
theorem tru_at {d : D} {c : Bool} {v : V} (hh : Hold K as M H) (h : truD M d = some c) (r : repX K as (hide as M H) d v) : TruV K v H c := by
  have sq : (seqD M d).map (fun ds => !ds.isEmpty) = some c → TruV K v H c := fun h => by
    cases e : seqD M d with
    | none => rw [e] at h; cases h
    | some ds =>
      rw [e] at h
      cases h
      obtain ⟨p, vs, rfl, e2, e3⟩ := seq_rd hh e r
      show TruV K (.ref p) H (!ds.isEmpty)
      rw [isEmpty_repL e2]
      rcases e3 with e3 | e3
      · exact Or.inl ⟨vs, e3, rfl⟩
      · exact Or.inr (Or.inl ⟨vs, e3, rfl⟩)
  cases d with
  | non => rw [repX_non] at r; subst r; cases h; rfl
  | bl b => rw [repX_bl] at r; subst r; cases h; rfl
  | int b => rw [repX_int] at r; subst r; cases h; rfl
  | str b =>
    rw [repX_str] at r
    subst r
    unfold truD at h
    simp only at h
    split at h
    · cases h
      exact ⟨by rw [sizeLine_eq]; assumption, rfl⟩
    · cases h
  | _ => exact sq h
def dTr (da : DTE) : DTT := fun G M k kx => da G M (fun d M' => match truD M' d with
  | some c => k c M'
  | none => False) kx
theorem wt_tr (h : WE X e da) (he : ∀ whole, isTrue e X.env whole = (do let v ← whole; standAt e.pos; holding [v] (truthy v)) := by intro _; rfl) : WT X e (dTr da) := ⟨fun {s H as G M k kx Q} st hd tk bk =>
  PT.sem (pt_truth pe_sem he) (h.run st hd tk fun v H' as' d' M' n hh r q => by
    cases z : truD M' d' with
    | none =>
      rw [z] at q
      exact q.elim
    | some c =>
      rw [z] at q
      exact ⟨c, tru_at hh z r, bk c H' as' M' n hh q⟩)⟩
def dIfE (t : DTT) (da db : DTE) : DTE := fun G M k kx => t G M (fun c M1 => if c = true then da G M1 k kx else db G M1 k kx) kx
theorem we_ifE (hc : WT X c tc) (ha : WE X a da) (hb : WE X b db) : WE X (.IfExp c a b pos) (dIfE tc da db) := ⟨fun {s H as G M k kx Q} st hd tk bk =>
  PE.sem (pe_ifExp pt_sem pe_sem pe_sem) (hc.run (Q := fun c H1 => if c = true then semE X a s H1 Q else semE X b s H1 Q) st hd tk fun c H' as' M' n h q => by
    cases c with
    | true => exact ha.run (st.nx n h) q (XW.nx n tk) (bk.nx n)
    | false => exact hb.run (st.nx n h) q (XW.nx n tk) (bk.nx n))⟩
/-- a op1 b op2 c -/
def dChain (f g : DOp) (da db dc : DTE) : DTE := fun G M k kx => da G M (fun x M1 => db G M1 (fun y M2 => f x y M2 (fun z M3 => match z with
  | .bl true => dc G M3 (fun w M4 => g y w M4 k kx) kx
  | .bl false => k (.bl false) M3
  | _ => False) kx) kx) kx
theorem chain_run {op op' : CmpOp} {f g : DOp} (ho : OpD X (compareOp op) f) (ho' : OpD X (compareOp op') g) (ha : WE X a da) (hb : WE X b db) (hc : WE X c dc) {k : DK} {Q : VK} {pins : List (Addr × Obj)} {sh : Shared} (st : Stt X.K as G M s H) (hd : dChain f g da db dc G M k kx)
    (tk : Takes X (XWe X.K as M H G kx)) (bk : Back X.K as M H k Q) (I : Inv X pins s H sh) :
    wpAny (model X.prog X.w) X.A (eval a X.env) (fun v s1 => wpAny (model X.prog X.w) X.A (eval b X.env) (fun u s2 => wpAny (model X.prog X.w) X.A (compareOp op v u) (fun d s3 => ∃ k, d = .bool k ∧
      (if k = true then wpAny (model X.prog X.w) X.A (eval c X.env) (fun w' s4 => wpAny (model X.prog X.w) X.A (compareOp op' u w') (EP X pins s Q) X.xe s4) X.xe s3 else ∃ H3, Inv X pins s H3 s3 ∧ Q (.bl false) H3)) X.xe s2) X.xe s1) X.xe sh := by
  refine thn (ha.run (Q := fun x H1 => ∃ as1 d1 M1, Nx as M H as1 M1 H1 ∧ Hold X.K as1 M1 H1 ∧ repX X.K as1 (hide as1 M1 H1) d1 x ∧ db G M1 (fun y M2 => f d1 y M2 (fun z M3 => match z with
    | .bl true => dc G M3 (fun w M4 => g y w M4 k kx) kx
    | .bl false => k (.bl false) M3
    | _ => False) kx) kx) st hd tk (fun v H' as' d' M' n h r q => ⟨as', d', M', n, h, r, q⟩) pins sh I) fun v s1 ⟨x, H1, I1, r1, as1, d1, M1, n1, h1, rx, q1⟩ => ?_
  refine thn (hb.run (Q := fun y H2 => ∃ as2 d2 M2, Nx as1 M1 H1 as2 M2 H2 ∧ Hold X.K as2 M2 H2 ∧ repX X.K as2 (hide as2 M2 H2) d2 y ∧ f d1 d2 M2 (fun z M3 => match z with
    | .bl true => dc G M3 (fun w M4 => g d2 w M4 k kx) kx
    | .bl false => k (.bl false) M3
    | _ => False) kx) (st.nx n1 h1) q1 (XW.nx n1 tk) (fun v H' as' d' M' n h r q => ⟨as', d', M', n, h, r, q⟩) pins s1 I1) fun u s2 ⟨y, H2, I2, r2, as2, d2, M2, n2, h2, ry, q2⟩ => ?_
  have n12 := n1.trans n2
  refine thn (ho (Q := fun z H3 => ∃ as3 d3 M3, Nx as2 M2 H2 as3 M3 H3 ∧ Hold X.K as3 M3 H3 ∧ repX X.K as3 (hide as3 M3 H3) d3 z ∧ (match d3 with
    | .bl true => dc G M3 (fun w M4 => g d2 w M4 k kx) kx
    | .bl false => k (.bl false) M3
    | _ => False)) (st.nx n12 h2) (repX_nx n2 rx) ry q2 (XW.nx n12 tk) (fun v H' as' d' M' n h r q => ⟨as', d', M', n, h, r, q⟩) I2 r1 r2) fun d s3 ⟨z, H3, I3, r3, as3, d3, M3, n3, h3, rz, q3⟩ => ?_
  cases d3 with
  | bl kk =>
    have e := repX_bl.mp rz
    subst e
    refine ⟨kk, r3, ?_⟩
    have n13 := n12.trans n3
    cases kk with
    | true =>
      rw [if_pos rfl]
      refine thn (hc.run (Q := fun y H4 => ∃ as4 d4 M4, Nx as3 M3 H3 as4 M4 H4 ∧ Hold X.K as4 M4 H4 ∧ repX X.K as4 (hide as4 M4 H4) d4 y ∧ g d2 d4 M4 k kx) (st.nx n13 h3) q3 (XW.nx n13 tk) (fun v H' as' d' M' n h r q => ⟨as', d', M', n, h, r, q⟩) pins s3 I3) fun w' s4 ⟨z', H4, I4, r4, as4, d4, M4, n4, h4, rw', q4⟩ => ?_
      have n14 := n13.trans n4
      exact ho' (st.nx n14 h4) (repX_nx (n3.trans n4) ry) rw' q4 (XW.nx n14 tk) (bk.nx n14) I4 r2 r4
    | false =>
      rw [if_neg Bool.false_ne_true]
      exact ⟨H3, I3, bk _ H3 as3 _ M3 n13 h3 (repX_bl.mpr rfl) q3⟩
  | _ => exact q3.elim
theorem we_chain {op op' : CmpOp} {f g : DOp} (ho : OpD X (compareOp op) f) (ho' : OpD X (compareOp op') g) (ha : WE X a da) (hb : WE X b db) (hc : WE X c dc)
    (hm : lastMarks [op, op'] [b, c] = false := by with_unfolding_all rfl) : WE X (.Compare a [op, op'] [b, c] pos) (dChain f g da db dc) := ⟨fun {s H as G M k kx Q} st hd tk bk pins sh I => by
  refine Compare_chain (thn (chain_run ho ho' ha hb hc st hd tk bk I) fun v s1 h1 => chain_link (thn h1 fun u s2 h2 => thn h2 fun d s3 ⟨kk, e, q⟩ => ?_)) hm
  subst e
  refine wpAny_truthy_bool ?_
  cases kk with
  | false =>
    rw [if_neg Bool.false_ne_true] at q
    obtain ⟨H3, I3, q⟩ := q
    exact ite_ff ⟨.bl false, H3, I3, rfl, q⟩
  | true =>
    rw [if_pos rfl] at q
    exact ite_tt (chain_last (thn q fun w' s4 q4 => q4))⟩
theorem wt_chain {op op' : CmpOp} {f g : DOp} (ho : OpD X (compareOp op) f) (ho' : OpD X (compareOp op') g) (ha : WE X a da) (hb : WE X b db) (hc : WE X c dc)
    (hm : lastMarks [op, op'] [b, c] = false := by with_unfolding_all rfl) : WT X (.Compare a [op, op'] [b, c] pos) (dB (dChain f g da db dc)) := ⟨fun {s H as G M k kx Q} st hd tk bk pins sh I => by
  refine isTrue_chain (thn (chain_run ho ho' ha hb hc st hd tk (back_b bk) I) fun v s1 h1 => test_link (thn h1 fun u s2 h2 => thn h2 fun d s3 ⟨kk, e, q⟩ => ?_)) hm
  subst e
  refine wpAny_truthy_bool ?_
  cases kk with
  | false =>
    rw [if_neg Bool.false_ne_true] at q
    obtain ⟨H3, I3, k', e', q'⟩ := q
    cases e'
    exact ite_ff ⟨H3, I3, q'⟩
  | true =>
    rw [if_pos rfl] at q
    refine ite_tt (test_last (thn q fun w' s4 q4 => thn q4 fun d' s5 ⟨z2, H5, I5, r5, k2, e2, q5⟩ => ?_))
    subst e2
    cases r5
    exact wpAny_truthy_bool ⟨H5, I5, q5⟩⟩

/-! ### arguments, displays -/
def dNil : DTA := fun _ M k _ => k [] M
def dCons (da : DTE) (dr : DTA) : DTA := fun G M k kx => da G M (fun x M1 => dr G M1 (fun xs M2 => k (x :: xs) M2) kx) kx
theorem wa_nil : WA X [] dNil := ⟨fun {s H as G M k kx Q} st hd tk bk => PA.sem pa_nil (bk [] H as [] M Nx.refl st.hold rfl hd)⟩
theorem wa_cons {es : List Expr} {dr : DTA} (ha : WE X e da) (hr : WA X es dr) (hs : starEach (e :: es) X.env = (false, eval e X.env) :: starEach es X.env := by rfl) : WA X (e :: es) (dCons da dr) := ⟨fun {s H as G M k kx Q} st hd tk bk =>
  PA.sem (pa_cons pe_sem pa_sem hs) (ha.run st hd tk fun v H' as' d' M' n h r q =>
    hr.run (Q := fun xs H2 => Q (v :: xs) H2) (st.nx n h) q (XW.nx n tk) fun vs H2 as2 ds M2 n2 h2 r2 q2 => bk (v :: vs) H2 as2 (d' :: ds) M2 (n.trans n2) h2 ⟨v, vs, rfl, repX_nx n2 r, r2⟩ q2)⟩
abbrev big : Nat := 100000
theorem big_line {n : Nat} (h : n ≤ big) : n ≤ sizeLine := by
  have h : n ≤ 100000 := h
  rw [sizeLine_eq]
  omega
def dTup (dt : DTA) : DTE := fun G M k kx => dt G M (fun ds M1 => ds.all plain = true ∧ ds.length ≤ big ∧ k (.tup ds) M1) kx
def dLst (dt : DTA) : DTE := fun G M k kx => dt G M (fun ds M1 => ds.all plain = true ∧ ds.length ≤ big ∧ k (.lst ds) M1) kx
def dLstM (dt : DTA) : DTE := fun G M k kx => dt G M (fun ds M1 => ds.all plain = true ∧ ds.length ≤ big ∧ k (.cell M1.length) (M1 ++ [.ml ds])) kx
theorem rep_tup {H : Hp} {p : Addr} {ds : List D} {vs : List V} (h : H p = some (.tup vs)) (r : repL K H ds vs) : rep K H (.tup ds) (.ref p) := by
  rw [rep]
  exact ⟨p, vs, rfl, SqT.of h, r⟩
theorem rep_lst {H : Hp} {p : Addr} {ds : List D} {vs : List V} (h : H p = some (.lst vs)) (r : repL K H ds vs) : rep K H (.lst ds) (.ref p) := by
  rw [rep]
  exact ⟨p, vs, rfl, h, r⟩
/-- a new tuple, a new list, a new cell behind H -/
theorem new_tup {p : Addr} {ds : List D} {vs : List V} (h : Hold K as M H) (hp : H p = none) (r : repL K (hide as M H) ds vs) : Nx as M H as M (upd H p (.tup vs)) ∧ Hold K as M (upd H p (.tup vs)) ∧ repX K as (hide as M (upd H p (.tup vs))) (.tup ds) (.ref p) := by
  obtain ⟨h1, n1, e1⟩ := h.imm (o := .tup vs) hp
  exact ⟨n1, h1, repX_of (rep_tup e1 (repL_mono n1.ex _ _ r))⟩
theorem new_lst {p : Addr} {ds : List D} {vs : List V} (h : Hold K as M H) (hp : H p = none) (r : repL K (hide as M H) ds vs) : Nx as M H as M (upd H p (.lst vs)) ∧ Hold K as M (upd H p (.lst vs)) ∧ repX K as (hide as M (upd H p (.lst vs))) (.lst ds) (.ref p) := by
  obtain ⟨h1, n1, e1⟩ := h.imm (o := .lst vs) hp
  exact ⟨n1, h1, repX_of (rep_lst e1 (repL_mono n1.ex _ _ r))⟩
theorem new_cell {p : Addr} {ds : List D} {vs : List V} (h : Hold K as M H) (hp : H p = none) (r : repL K (hide as M H) ds vs) :
    Nx as M H (as.snoc p) (M ++ [.ml ds]) (upd H p (.lst vs)) ∧ Hold K (as.snoc p) (M ++ [.ml ds]) (upd H p (.lst vs)) ∧ repX K (as.snoc p) (hide (as.snoc p) (M ++ [.ml ds]) (upd H p (.lst vs))) (.cell M.length) (.ref p) := by
  obtain ⟨h1, n1⟩ := h.mut (mo := .ml ds) (ho := .lst vs) hp (fun z => nomatch z) ⟨vs, rfl, r⟩
  exact ⟨n1, h1, p, by show (as.l ++ [p])[M.length]? = _; rw [← h.len]; simp, rfl⟩
theorem we_tup {es : List Expr} {dt : DTA} {x1} (h : WA X es dt) : WE X (.Tuple es x1 pos) (dTup dt) := ⟨fun {s H as G M k kx Q} st hd tk bk =>
  PE.sem (pe_tup pa_sem) (h.run (Q := fun xs H1 => xs.length ≤ sizeLine ∧ ∀ p, H1 p = none → Q (.ref p) (upd H1 p (.tup xs))) st hd tk fun vs H' as' ds M' n hh r ⟨p1, p2, q⟩ =>
    ⟨by rw [← repXs_length r]; exact big_line p2, fun p hp => by
      obtain ⟨n2, h2, r2⟩ := new_tup hh hp (repL_of_plain r p1)
      exact bk _ _ as' _ M' (n.trans n2) h2 r2 q⟩)⟩
theorem we_lst {es : List Expr} {dt : DTA} (h : WA X es dt) : WE X (.List es pos) (dLst dt) := ⟨fun {s H as G M k kx Q} st hd tk bk =>
  PE.sem (pe_lst pa_sem) (h.run (Q := fun xs H1 => xs.length ≤ sizeLine ∧ ∀ p, H1 p = none → Q (.ref p) (upd H1 p (.lst xs))) st hd tk fun vs H' as' ds M' n hh r ⟨p1, p2, q⟩ =>
    ⟨by rw [← repXs_length r]; exact big_line p2, fun p hp => by
      obtain ⟨n2, h2, r2⟩ := new_lst hh hp (repL_of_plain r p1)
      exact bk _ _ as' _ M' (n.trans n2) h2 r2 q⟩)⟩
theorem we_lstM {es : List Expr} {dt : DTA} (h : WA X es dt) : WE X (.List es pos) (dLstM dt) := ⟨fun {s H as G M k kx Q} st hd tk bk =>
  PE.sem (pe_lst pa_sem) (h.run (Q := fun xs H1 => xs.length ≤ sizeLine ∧ ∀ p, H1 p = none → Q (.ref p) (upd H1 p (.lst xs))) st hd tk fun vs H' as' ds M' n hh r ⟨p1, p2, q⟩ =>
    ⟨by rw [← repXs_length r]; exact big_line p2, fun p hp => by
      obtain ⟨n2, h2, r2⟩ := new_cell hh hp (repL_of_plain r p1)
      exact bk _ _ _ _ _ (n.trans n2) h2 r2 q⟩)⟩

/-! ### subscripts -/
theorem repXs_at {ds : List D} {vs : List V} {i : Nat} {d : D} (h : repXs K as H ds vs) (e : ds[i]? = some d) : ∃ v, vs[i]? = some v ∧ repX K as H d v := by
  induction ds generalizing vs i with
  | nil => simp at e
  | cons c ds ih =>
    obtain ⟨v, r, rfl, h1, h2⟩ := h
    cases i with
    | zero =>
      simp at e
      subst e
      exact ⟨v, by simp, h1⟩
    | succ i =>
      obtain ⟨w, e1, e2⟩ := ih (i := i) h2 (by simpa using e)
      exact ⟨w, by simpa using e1, e2⟩
theorem atI_repX {ds : List D} {vs : List V} {i : Int} {d : D} (r : repXs K as H ds vs) (h : atI ds i = some d) : ∃ v, atI vs i = some v ∧ repX K as H d v := by
  unfold atI at h ⊢
  rw [← repXs_length r]
  cases e : ixN ds.length i with
  | none => rw [e] at h; cases h
  | some j =>
    rw [e] at h
    obtain ⟨v, e1, e2⟩ := repXs_at r (show ds[j]? = some d from h)
    exact ⟨v, e1, e2⟩
theorem atI_rep {ds : List D} {vs : List V} {i : Int} {d : D} (r : repL K H ds vs) (h : atI ds i = some d) : ∃ v, atI vs i = some v ∧ rep K H d v := by
  unfold atI at h ⊢
  rw [← repL_length r]
  cases e : ixN ds.length i with
  | none => rw [e] at h; cases h
  | some j =>
    rw [e] at h
    obtain ⟨v, e1, e2⟩ := repL_get r (show ds[j]? = some d from h)
    exact ⟨v, e1, e2⟩
def fIx : DOp := fun x y M k _ => match x, y with
  | .str z, .int i => z.length ≤ big ∧ (match atI z.cps.toList i with
    | some c => k (.str ⟨#[c]⟩) M
    | none => False)
  | x, .int i => (match seqX M x with
    | some ds => (match atI ds i with
      | some d => k d M
      | none => False)
    | none => False)
  | _, _ => False
theorem fIx_seqX {x : D} {i : Int} {M : Ms} {k : DK} {kx : DX} {ds : List D} (h : seqX M x = some ds) : fIx x (.int i) M k kx = (match atI ds i with
      | some d => k d M
      | none => False) := by
  cases x <;> first
    | (unfold fIx; simp only [h]; done)
    | (cases h; done)
    | (cases h; rfl)
theorem fIx_seq {x : D} {i : Int} {M : Ms} {k : DK} {kx : DX} {ds : List D} (h : seqD M x = some ds) : fIx x (.int i) M k kx = (match atI ds i with
      | some d => k d M
      | none => False) := by
  exact fIx_seqX (seqX_of h)
theorem we_ix (ha : WE X a da) (hb : WE X b db) (hs : PlainIx b) : WE X (.Subscript a b pos) (dBin fIx da db) := ⟨fun {s H as G M k kx Q} st hd tk bk =>
  PE.sem (pe_ix ix_seq pe_sem pe_sem hs) (ha.run st hd tk fun x H1 as1 d1 M1 n1 h1 r1 q1 => hb.run (st.nx n1 h1) q1 (XW.nx n1 tk) fun y H2 as2 d2 M2 n2 h2 r2 q2 => by
    have rx := repX_nx n2 r1
    have go : ∀ ds i, d2 = .int i → seqX M2 d1 = some ds → (match atI ds i with
        | some d => k d M2
        | none => False) → rIx X.K x y H2 Q := fun ds i e2 e q => by
      subst e2
      have ey := repX_int.mp r2
      subst ey
      obtain ⟨p, vs, rfl, rl, hsq⟩ := seqX_rd h2 e rx
      cases z : atI ds i with
      | none => rw [z] at q; exact q.elim
      | some d =>
        rw [z] at q
        obtain ⟨v, e3, e4⟩ := atI_repX rl z
        have fin := bk v H2 as2 d M2 (n1.trans n2) h2 e4 q
        rcases hsq with hsq | hsq
        · exact Or.inl ⟨p, vs, i, v, rfl, rfl, hsq, e3, fin⟩
        · exact Or.inr (Or.inl ⟨p, vs, i, v, rfl, rfl, hsq, e3, fin⟩)
    cases d2 with
    | int i =>
      cases d1 with
      | str z =>
        obtain ⟨q0, q2⟩ := q2
        have ex := repX_str.mp rx
        subst ex
        have ey := repX_int.mp r2
        subst ey
        cases e : atI z.cps.toList i with
        | none => rw [e] at q2; exact q2.elim
        | some c =>
          rw [e] at q2
          exact Or.inr (Or.inr ⟨z, i, c, rfl, rfl, big_line q0, e, bk _ H2 as2 _ M2 (n1.trans n2) h2 (repX_str.mpr rfl) q2⟩)
      | _ =>
        unfold fIx at q2
        simp only at q2
        split at q2
        · rename_i ds e
          exact go ds i rfl e q2
        · exact q2.elim
    | _ => exact absurd q2 (by unfold fIx; cases d1 <;> exact fun z => z))⟩

/-! ### built-ins -/
abbrev DCl := List D → Ms → DK → Prop
/-- a reading by values, told by data -/
def RdC (K : PySem.W.Frag) (r : List V → Hp → VK → Prop) (f : DCl) : Prop :=
  ∀ {H : Hp} {as : AS} {M : Ms} {ds : List D} {vs : List V} {k : DK} {Q : VK}, Hold K as M H → repXs K as (hide as M H) ds vs → f ds M k → Back K as M H k Q → r vs H Q
def dCB (f : DCl) (dt : DTA) : DTE := fun G M k kx => dt G M (fun ds M1 => f ds M1 k) kx
theorem we_callB {x : Str} {p : Pos} {es : List Expr} {dt : DTA} {id : String} {r : List V → Hp → VK → Prop} {f : DCl} (hc : CallR X (.builtin id) r) (hr : RdC X.K r f) (hg : Gl X x) (hm : X.mg x = none) (hv : bootBuiltins x = some (.builtin id)) (ha : WA X (e :: es) dt)
    (hn : x ≠ "__name__" := by decide) (hdb : (x == ("__debug__" : Str)) = false := by decide)
    (he : starEach (e :: es) X.env = (false, eval e X.env) :: starEach es X.env := by rfl) (hpl : (backTo pos (starEach es X.env)).any (·.1) = false := by rfl) : WE X (.Call (.Name x p) (e :: es) [] pos) (dCB f dt) := ⟨fun {s H as G M k kx Q} st hd tk bk =>
  PE.sem (pe_callB hc hg hm hv pa_sem hn hdb he hpl) (ha.run st hd tk fun vs H' as' ds M' n hh rr q => hr hh rr q (bk.nx n))⟩
theorem we_callTy {x : Str} {p : Pos} {es : List Expr} {dt : DTA} {T : String} {r : List V → Hp → VK → Prop} {f : DCl} (hc : CallR X (.type T) r) (hr : RdC X.K r f) (hg : Gl X x) (hm : X.mg x = none) (hv : bootBuiltins x = some (.type T)) (ha : WA X (e :: es) dt)
    (hn : x ≠ "__name__" := by decide) (hdb : (x == ("__debug__" : Str)) = false := by decide)
    (he : starEach (e :: es) X.env = (false, eval e X.env) :: starEach es X.env := by rfl) (hpl : (backTo pos (starEach es X.env)).any (·.1) = false := by rfl) : WE X (.Call (.Name x p) (e :: es) [] pos) (dCB f dt) := ⟨fun {s H as G M k kx Q} st hd tk bk =>
  PE.sem (pe_callTy hc hg hm hv pa_sem hn hdb he hpl) (ha.run st hd tk fun vs H' as' ds M' n hh rr q => hr hh rr q (bk.nx n))⟩
def lenD (M : Ms) (d : D) : Option Int := match d with
  | .str z => if z.length ≤ big then some (z.length : Int) else none
  | d => (seqX M d).map fun ds => (ds.length : Int)
def cLen : DCl := fun ds M k => match ds with
  | [d] => (match lenD M d with
    | some n => k (.int n) M
    | none => False)
  | _ => False
abbrev rLenA (K : PySem.W.Frag) : List V → Hp → VK → Prop := fun xs H Q => ∃ x n, xs = [x] ∧ LenV K x H n ∧ Q (.int n) H
theorem rd_len : RdC K (rLenA K) cLen := by
  intro H as M ds vs k Q hh rr q bk
  unfold cLen at q
  split at q
  · rename_i d
    obtain ⟨v, r, rfl, rx, e⟩ := rr
    cases (show r = [] from e)
    have sq : (seqX M d).map (fun ds => (ds.length : Int)) = lenD M d → rLenA K [v] H Q := fun z => by
      rw [← z] at q
      cases e : seqX M d with
      | none => rw [e] at q; exact q.elim
      | some ds =>
        rw [e] at q
        obtain ⟨p, vs, rfl, e2, e3⟩ := seqX_rd hh e rx
        have q : k (.int (ds.length : Int)) M := q
        rw [repXs_length e2] at q
        refine ⟨.ref p, vs.length, rfl, ?_, bk _ H as _ M Nx.refl hh (repX_int.mpr rfl) q⟩
        rcases e3 with e3 | e3
        · exact Or.inl ⟨vs, e3, rfl⟩
        · exact Or.inr ⟨vs, e3, rfl⟩
    cases d with
    | str z =>
      have e := repX_str.mp rx
      subst e
      unfold lenD at q
      simp only at q
      split at q
      · rename_i n e
        split at e
        · cases e
          exact ⟨_, z.length, rfl, ⟨big_line (by assumption), rfl⟩, bk _ H as _ M Nx.refl hh (repX_int.mpr rfl) q⟩
        · cases e
      · exact q.elim
    | _ => exact sq rfl
  · exact q.elim
def cAbs : DCl := fun ds M k => match ds with
  | [.int i] => k (.int (if i < 0 then -i else i)) M
  | _ => False
theorem rXs1 {d : D} {vs : List V} (h : repXs K as H [d] vs) : ∃ v, vs = [v] ∧ repX K as H d v := by
  obtain ⟨v, r, rfl, rx, e⟩ := h
  cases (show r = [] from e)
  exact ⟨v, rfl, rx⟩
theorem rXs2 {d d' : D} {vs : List V} (h : repXs K as H [d, d'] vs) : ∃ v v', vs = [v, v'] ∧ repX K as H d v ∧ repX K as H d' v' := by
  obtain ⟨v, r, rfl, rx, h⟩ := h
  obtain ⟨v', rfl, rx'⟩ := rXs1 h
  exact ⟨v, v', rfl, rx, rx'⟩
theorem rd_abs : RdC K (fun xs H Q => ∃ i, xs = [.int i] ∧ Q (.int (if i < 0 then -i else i)) H) cAbs := by
  intro H as M ds vs k Q hh rr q bk
  unfold cAbs at q
  split at q
  · rename_i i
    obtain ⟨v, rfl, rx⟩ := rXs1 rr
    exact ⟨i, by rw [repX_int.mp rx], bk _ H as _ M Nx.refl hh (repX_int.mpr rfl) q⟩
  · exact q.elim
def cMax2 : DCl := fun ds M k => match ds with
  | [.int i, .int j] => k (.int (max i j)) M
  | _ => False
def cMin2 : DCl := fun ds M k => match ds with
  | [.int i, .int j] => k (.int (min i j)) M
  | _ => False
theorem rd_max2 : RdC K (fun xs H Q => ∃ i j, xs = [.int i, .int j] ∧ Q (.int (if j > i then j else i)) H) cMax2 := by
  intro H as M ds vs k Q hh rr q bk
  unfold cMax2 at q
  split at q
  · rename_i i j
    obtain ⟨v, v', rfl, rx, rx'⟩ := rXs2 rr
    have e : max i j = if j > i then j else i := by split <;> omega
    rw [e] at q
    exact ⟨i, j, by rw [repX_int.mp rx, repX_int.mp rx'], bk _ H as _ M Nx.refl hh (repX_int.mpr rfl) q⟩
  · exact q.elim
theorem rd_min2 : RdC K (fun xs H Q => ∃ i j, xs = [.int i, .int j] ∧ Q (.int (if j < i then j else i)) H) cMin2 := by
  intro H as M ds vs k Q hh rr q bk
  unfold cMin2 at q
  split at q
  · rename_i i j
    obtain ⟨v, v', rfl, rx, rx'⟩ := rXs2 rr
    have e : min i j = if j < i then j else i := by split <;> omega
    rw [e] at q
    exact ⟨i, j, by rw [repX_int.mp rx, repX_int.mp rx'], bk _ H as _ M Nx.refl hh (repX_int.mpr rfl) q⟩
  · exact q.elim
def cInt : DCl := fun ds M k => match ds with
  | [.int i] => k (.int i) M
  | [.bl b] => k (.int (if b then 1 else 0)) M
  | _ => False
theorem rd_int : RdC K (fun xs H Q => (∃ i, xs = [.int i] ∧ Q (.int i) H) ∨ ∃ k, xs = [.bl k] ∧ Q (.int (if k then 1 else 0)) H) cInt := by
  intro H as M ds vs k Q hh rr q bk
  unfold cInt at q
  split at q
  · rename_i i
    obtain ⟨v, rfl, rx⟩ := rXs1 rr
    exact Or.inl ⟨i, by rw [repX_int.mp rx], bk _ H as _ M Nx.refl hh (repX_int.mpr rfl) q⟩
  · rename_i i
    obtain ⟨v, rfl, rx⟩ := rXs1 rr
    exact Or.inr ⟨i, by rw [repX_bl.mp rx], bk _ H as _ M Nx.refl hh (repX_int.mpr rfl) q⟩
  · exact q.elim
/-- list(xs), tuple(xs) -/
def cList : DCl := fun ds M k => match ds with
  | [d] => (match seqD M d with
    | some xs => k (.lst xs) M
    | none => False)
  | _ => False
def cListM : DCl := fun ds M k => match ds with
  | [d] => (match seqD M d with
    | some xs => k (.cell M.length) (M ++ [.ml xs])
    | none => False)
  | _ => False
def cTuple : DCl := fun ds M k => match ds with
  | [d] => (match seqD M d with
    | some xs => k (.tup xs) M
    | none => False)
  | _ => False
abbrev rListA (K : PySem.W.Frag) : List V → Hp → VK → Prop := fun xs H Q => ∃ p ys, xs = [.ref p] ∧ (SqL K H p ys ∨ SqT K H p ys) ∧ ∀ l, H l = none → Q (.ref l) (upd H l (.lst ys))
theorem rd_list : RdC K (rListA K) cList := by
  intro H as M ds vs k Q hh rr q bk
  unfold cList at q
  split at q
  · rename_i d
    obtain ⟨v, rfl, rx⟩ := rXs1 rr
    split at q
    · rename_i xs e
      obtain ⟨p, ws, rfl, e2, e3⟩ := seq_rd hh e rx
      refine ⟨p, ws, rfl, e3, fun l hl => ?_⟩
      obtain ⟨n2, h2, r2⟩ := new_lst hh hl e2
      exact bk _ _ as _ M n2 h2 r2 q
    · exact q.elim
  · exact q.elim
theorem rd_listM : RdC K (rListA K) cListM := by
  intro H as M ds vs k Q hh rr q bk
  unfold cListM at q
  split at q
  · rename_i d
    obtain ⟨v, rfl, rx⟩ := rXs1 rr
    split at q
    · rename_i xs e
      obtain ⟨p, ws, rfl, e2, e3⟩ := seq_rd hh e rx
      refine ⟨p, ws, rfl, e3, fun l hl => ?_⟩
      obtain ⟨n2, h2, r2⟩ := new_cell hh hl e2
      exact bk _ _ _ _ _ n2 h2 r2 q
    · exact q.elim
  · exact q.elim
theorem rd_tuple : RdC K (fun xs H Q => ∃ p ys, xs = [.ref p] ∧ ((SqL K H p ys ∧ ∀ l, H l = none → Q (.ref l) (upd H l (.tup ys))) ∨ (SqT K H p ys ∧ Q (.ref p) H))) cTuple := by
  intro H as M ds vs k Q hh rr q bk
  unfold cTuple at q
  split at q
  · rename_i d
    obtain ⟨v, rfl, rx⟩ := rXs1 rr
    split at q
    · rename_i xs e
      obtain ⟨p, ws, rfl, e2, e3⟩ := seq_at hh e rx
      refine ⟨p, ws, rfl, ?_⟩
      have go : SqL K H p ws → (SqL K H p ws ∧ ∀ l, H l = none → Q (.ref l) (upd H l (.tup ws))) := fun z => ⟨z, fun l hl => by
        obtain ⟨n2, h2, r2⟩ := new_tup hh hl e2
        exact bk _ _ as _ M n2 h2 r2 q⟩
      rcases e3 with ⟨_, rfl, e3⟩ | ⟨ys, rfl, e3⟩ | ⟨i, _, _, _, e3⟩ | ⟨_, _, e3⟩
      · exact Or.inl (go (hide_l e3))
      · cases e
        refine Or.inr ⟨hide_t e3, bk _ H as _ M Nx.refl hh (repX_of ?_) q⟩
        rw [rep]
        exact ⟨p, ws, rfl, e3, e2⟩
      · exact Or.inl (go (SqL.of e3))
      · exact Or.inl (go e3)
    · exact q.elim
  · exact q.elim
/-- list(range(..)) -/
def rngD (a b : Int) : List D := (List.range (b - a).toNat).map fun i => D.int (a + (i : Nat))
theorem rngD_ints (a b : Int) : rngD a b = ((List.range (b - a).toNat).map fun i => a + ((i : Nat) : Int)).map D.int := by
  unfold rngD
  rw [List.map_map]
  rfl
theorem repL_rng (a b : Int) : repL K H (rngD a b) (rgV a b) := by
  rw [rngD_ints]
  have e : rgV a b = ((List.range (b - a).toNat).map fun i => a + ((i : Nat) : Int)).map V.int := by
    unfold rgV
    rw [List.map_map]
    rfl
  rw [e]
  exact repL_ints _
def rgB (a b : Int) : Prop := -(2 ^ 40) ≤ a ∧ a < 2 ^ 40 ∧ -(2 ^ 40) ≤ b ∧ b < 2 ^ 40 ∧ b - a ≤ 100000
theorem rgB_ok {a b : Int} (h : rgB a b) : RgOk a b := by
  obtain ⟨h1, h2, h3, h4, h5⟩ := h
  exact ⟨by omega, by omega, by omega, by omega, by omega⟩
def dRg1 (da : DTE) (k2 : List D → Ms → DK → Prop) : DTE := fun G M k kx => da G M (fun x M1 => match x with
  | .int n => rgB 0 n ∧ k2 (rngD 0 n) M1 k
  | _ => False) kx
def dRg2 (da db : DTE) (k2 : List D → Ms → DK → Prop) : DTE := fun G M k kx => da G M (fun x M1 => db G M1 (fun y M2 => match x, y with
  | .int a, .int b => rgB a b ∧ k2 (rngD a b) M2 k
  | _, _ => False) kx) kx
def toLst : List D → Ms → DK → Prop := fun ds M k => k (.lst ds) M
def toCell : List D → Ms → DK → Prop := fun ds M k => k (.cell M.length) (M ++ [.ml ds])
def toTup : List D → Ms → DK → Prop := fun ds M k => k (.tup ds) M
theorem to_lst {ds : List D} {vs : List V} {k : DK} {Q : VK} (hh : Hold K as M H) (r : repL K (hide as M H) ds vs) (q : toLst ds M k) (bk : Back K as M H k Q) : ∀ l, H l = none → Q (.ref l) (upd H l (.lst vs)) := fun l hl => by
  obtain ⟨n2, h2, r2⟩ := new_lst hh hl r
  exact bk _ _ _ _ _ n2 h2 r2 q
theorem to_cell {ds : List D} {vs : List V} {k : DK} {Q : VK} (hh : Hold K as M H) (r : repL K (hide as M H) ds vs) (q : toCell ds M k) (bk : Back K as M H k Q) : ∀ l, H l = none → Q (.ref l) (upd H l (.lst vs)) := fun l hl => by
  obtain ⟨n2, h2, r2⟩ := new_cell hh hl r
  exact bk _ _ _ _ _ n2 h2 r2 q
theorem to_tup {ds : List D} {vs : List V} {k : DK} {Q : VK} (hh : Hold K as M H) (r : repL K (hide as M H) ds vs) (q : toTup ds M k) (bk : Back K as M H k Q) : ∀ l, H l = none → Q (.ref l) (upd H l (.tup vs)) := fun l hl => by
  obtain ⟨n2, h2, r2⟩ := new_tup hh hl r
  exact bk _ _ _ _ _ n2 h2 r2 q
abbrev ToL (K : PySem.W.Frag) (k2 : List D → Ms → DK → Prop) : Prop := ∀ {as : AS} {M : Ms} {H : Hp} {ds : List D} {vs : List V} {k : DK} {Q : VK}, Hold K as M H → repL K (hide as M H) ds vs → k2 ds M k → Back K as M H k Q → ∀ l, H l = none → Q (.ref l) (upd H l (.lst vs))
theorem we_listRg1 {p pos' p' : Pos} {k2 : List D → Ms → DK → Prop} (hk : ToL X.K k2) (hc : X.calm = true) (hg : Gl X "list") (hm : X.mg "list" = none) (hg2 : Gl X "range") (hm2 : X.mg "range" = none) (ha : WE X a da)
    (na : starEach [Expr.Call (.Name "range" p') [a] [] pos'] X.env = (false, eval (Expr.Call (.Name "range" p') [a] [] pos') X.env) :: starEach [] X.env := by rfl) (na2 : starEach [a] X.env = (false, eval a X.env) :: starEach [] X.env := by rfl) :
    WE X (.Call (.Name "list" p) [.Call (.Name "range" p') [a] [] pos'] [] pos) (dRg1 da k2) := ⟨fun {s H as G M k kx Q} st hd tk bk =>
  PE.sem (pe_listRg hc hg hm (prg_1 hg2 hm2 pe_sem na2) na) (ha.run st hd tk fun v H' as' d' M' n hh r q => by
    cases d' with
    | int j =>
      obtain ⟨q1, q2⟩ := q
      exact ⟨j, repX_int.mp r, rgB_ok q1, hk hh (repL_rng 0 j) q2 (bk.nx n)⟩
    | _ => exact q.elim)⟩
theorem we_listRg2 {p pos' p' : Pos} {k2 : List D → Ms → DK → Prop} (hk : ToL X.K k2) (hc : X.calm = true) (hg : Gl X "list") (hm : X.mg "list" = none) (hg2 : Gl X "range") (hm2 : X.mg "range" = none) (ha : WE X a da) (hb : WE X b db)
    (na : starEach [Expr.Call (.Name "range" p') [a, b] [] pos'] X.env = (false, eval (Expr.Call (.Name "range" p') [a, b] [] pos') X.env) :: starEach [] X.env := by rfl) (na2 : starEach [a, b] X.env = (false, eval a X.env) :: starEach [b] X.env := by rfl)
    (na3 : starEach [b] X.env = (false, eval b X.env) :: starEach [] X.env := by rfl) (hpl : (backTo pos' (starEach [b] X.env)).any (fun x => x.1) = false := by rfl) :
    WE X (.Call (.Name "list" p) [.Call (.Name "range" p') [a, b] [] pos'] [] pos) (dRg2 da db k2) := ⟨fun {s H as G M k kx Q} st hd tk bk =>
  PE.sem (pe_listRg hc hg hm (prg_2 hg2 hm2 pe_sem pe_sem na2 na3 hpl) na) (ha.run st hd tk fun v H' as' d' M' n hh r q => hb.run (st.nx n hh) q (XW.nx n tk) fun v2 H2 as2 d2 M2 n2 h2 r2 q2 => by
    cases d' with
    | int i =>
      cases d2 with
      | int j =>
        obtain ⟨q1, q2⟩ := q2
        exact ⟨i, j, repX_int.mp r, repX_int.mp r2, rgB_ok q1, hk h2 (repL_rng i j) q2 (bk.nx (n.trans n2))⟩
      | _ => exact q2.elim
    | _ => exact q2.elim)⟩
/-- sorted(xs) of ints, below 64 of them -/
def insI (x : Int) : List Int → List Int
  | [] => [x]
  | y :: ys => if x ≤ y then x :: y :: ys else y :: insI x ys
def sortI : List Int → List Int
  | [] => []
  | x :: xs => insI x (sortI xs)
def intsD : List D → Option (List Int)
  | [] => some []
  | .int i :: ds => (intsD ds).map (i :: ·)
  | _ => none
theorem intsD_eq : ∀ {ds : List D} {ns : List Int}, intsD ds = some ns → ds = ns.map D.int
  | [], ns, h => by cases h; rfl
  | .int i :: ds, ns, h => by
    unfold intsD at h
    cases e : intsD ds with
    | none => rw [e] at h; cases h
    | some ms =>
      rw [e] at h
      cases h
      rw [intsD_eq e]
      rfl
@[simp] theorem intsD_map : ∀ (ns : List Int), intsD (ns.map D.int) = some ns
  | [] => rfl
  | n :: ns => by
    show (intsD (ns.map D.int)).map (n :: ·) = _
    rw [intsD_map ns]
    rfl
theorem insI_perm (x : Int) : ∀ ys : List Int, (insI x ys).Perm (x :: ys)
  | [] => List.Perm.refl _
  | y :: ys => by
    unfold insI
    split
    · exact List.Perm.refl _
    · exact ((insI_perm x ys).cons y).trans (List.Perm.swap x y ys)
theorem sortI_perm : ∀ xs : List Int, (sortI xs).Perm xs
  | [] => List.Perm.refl _
  | x :: xs => (insI_perm x (sortI xs)).trans ((sortI_perm xs).cons x)
theorem insI_sorted (x : Int) : ∀ ys : List Int, ys.Pairwise (· ≤ ·) → (insI x ys).Pairwise (· ≤ ·)
  | [], _ => by unfold insI; simp
  | y :: ys, h => by
    rw [List.pairwise_cons] at h
    unfold insI
    split
    · rename_i c
      rw [List.pairwise_cons]
      refine ⟨fun z hz => ?_, List.pairwise_cons.mpr h⟩
      rcases List.mem_cons.mp hz with rfl | hz
      · exact c
      · exact Int.le_trans c (h.1 z hz)
    · rename_i c
      rw [List.pairwise_cons]
      refine ⟨fun z hz => ?_, insI_sorted x ys h.2⟩
      rcases List.mem_cons.mp ((insI_perm x ys).mem_iff.mp hz) with rfl | hz
      · omega
      · exact h.1 z hz
theorem sortI_sorted : ∀ xs : List Int, (sortI xs).Pairwise (· ≤ ·)
  | [] => List.Pairwise.nil
  | x :: xs => insI_sorted x _ (sortI_sorted xs)
theorem sorted_unique : ∀ {xs ys : List Int}, xs.Perm ys → xs.Pairwise (· ≤ ·) → ys.Pairwise (· ≤ ·) → xs = ys := fun {xs ys} p h1 h2 => p.eq_of_pairwise (fun a b _ _ h3 h4 => Int.le_antisymm h3 h4) h1 h2
def cSorted : DCl := fun ds M k => match ds with
  | [d] => (match seqD M d with
    | some xs => (match intsD xs with
      | some ns => ns.length < 64 ∧ (match d with | .tup _ => False | _ => True) ∧ k (.lst ((sortI ns).map D.int)) M
      | none => False)
    | none => False)
  | _ => False
theorem rd_sorted : RdC K (rSorted K) cSorted := by
  intro H as M ds vs k Q hh rr q bk
  unfold cSorted at q
  split at q
  · rename_i d
    obtain ⟨v, rfl, rx⟩ := rXs1 rr
    split at q
    · rename_i xs e
      split at q
      · rename_i ns e0
        obtain ⟨q1, q0, q⟩ := q
        rw [intsD_eq e0] at e
        obtain ⟨p, ws, rfl, e2, e3⟩ := seq_at hh e rx
        have ew := repL_ints_inv e2
        subst ew
        have hq : SqL K H p (ns.map V.int) := by
          rcases e3 with ⟨_, _, q⟩ | ⟨_, rfl, _⟩ | ⟨i, _, _, _, q⟩ | ⟨_, _, q⟩
          · exact hide_l q
          · exact q0.elim
          · exact SqL.of q
          · exact q
        refine ⟨p, ns, rfl, hq, q1, fun ns' l p1 p2 hl => ?_⟩
        have en : ns' = sortI ns := sorted_unique (p1.trans (sortI_perm ns).symm) p2 (sortI_sorted ns)
        subst en
        obtain ⟨n2, h2, r2⟩ := new_lst hh hl (repL_ints (sortI ns))
        exact bk _ _ _ _ _ n2 h2 r2 q
      · exact q.elim
    · exact q.elim
  · exact q.elim
end
end DL

/-! DLd: statements, loops, defs, calls. -/
namespace DL
open PySem PySem.Spec PyProof.Rows L2 Evl
open Classical

section
variable {X : Cx} {K : PySem.W.Frag} {as as1 : AS} {M M1 : Ms} {H H1 : Hp} {G : Gm} {s : L2.St} {kx : DX} {k : DK} {Q : VK} {a b c e : Expr} {da db dc : DTE} {ta tb tc : DTT} {pos : Pos} {st : Stmt} {ss rest : List Stmt} {d1 d2 : DTS}
theorem Slots.set {i : Nat} {d : D} {v : V} (h : Slots K as H G s) (r : repX K as H d v) : Slots K as H (G.set i (some d)) (s.set i (some v)) := by
  refine ⟨by simpa using h.1, fun j d' e => ?_⟩
  by_cases c : i = j
  · subst c
    by_cases hi : i < G.length
    · rw [List.getElem?_set_self hi] at e
      cases e
      exact ⟨v, List.getElem?_set_self (h.1 ▸ hi), r⟩
    · rw [List.getElem?_eq_none (by simpa using hi)] at e
      cases e
  · rw [List.getElem?_set_ne c] at e
    rw [List.getElem?_set_ne c]
    exact h.2 j d' e
theorem Stt.set {i : Nat} {d : D} {v : V} (h : Stt K as G M s H) (r : repX K as (hide as M H) d v) : Stt K as (G.set i (some d)) M (s.set i (some v)) H := ⟨h.hold, h.slots.set r⟩

/-! ### statements -/
def dSeq (d1 d2 : DTS) : DTS := fun D G M => d1 { D with nx := fun G' M' => d2 D G' M' } G M
def dNext : DTS := fun D G M => D.nx G M
theorem ws_nil : WS X [] dNext := ⟨fun {s H as G M D DE} stt hd tk rd => PSs.sem pss_nil (rd.nx s H as G M Nx.refl stt hd)⟩
theorem ws_cons (h1 : W1 X st d1) (h2 : WS X rest d2) : WS X (st :: rest) (dSeq d1 d2) := ⟨fun {s H as G M D DE} stt hd tk rd =>
  PSs.sem (pss_cons ps_sem pss_sem) (h1.run (DE := { DE with nx := semB X rest DE }) stt hd tk ⟨fun s' H' as' G' M' n stt' q => h2.run stt' q (XW.nx n tk) (rd.step n), rd.bk, rd.ct, rd.rt⟩)⟩
theorem ws_one (h1 : W1 X st d1) : WS X [st] d1 := ⟨fun {s H as G M D DE} stt hd tk rd => PSs.sem (pss_one ps_sem) (h1.run stt hd tk rd)⟩
def dAsg (i : Nat) (da : DTE) : DTS := fun D G M => da G M (fun d M' => D.nx (G.set i (some d)) M') (fun x M' => D.ex x G M')
theorem takes_e {D : DEnds} (tk : Takes X (XW X.K as M H D.ex)) : Takes X (XWe X.K as M H G fun x M' => D.ex x G M') := XW.imp (fun x G' M' ⟨e, q⟩ => e ▸ q) tk
theorem w1_asg {i : Nat} {x : Str} {pos' : Pos} (hN : X.N.Nodup) (hi : X.N[i]? = some x) (hx : Loc X.env.scope x) (he : WE X e da) (hs : swapsWith e (some (.Name x pos')) pos.line X.env = pure false := by rfl)
    (hf : X.fn x = true ∨ X.env.scope.names.lookup x = some .local := by first | exact .inl rfl | exact .inr rfl | assumption) : W1 X (.Assign [.Name x pos'] e pos) (dAsg i da) := ⟨fun {s H as G M D DE} stt hd tk rd =>
  PS.sem (ps_set hN hi hx pe_sem hs hf) (he.run (Q := fun x H1 => gName i x s H1 DE.nx) stt hd (takes_e tk) fun v H' as' d' M' n h r q => rd.nx _ H' as' _ M' n ((stt.nx n h).set r) q)⟩
def dExp (da : DTE) : DTS := fun D G M => da G M (fun _ M' => D.nx G M') (fun x M' => D.ex x G M')
theorem w1_expr (he : WE X e da) (hs : swapsWith e none pos.line X.env = pure false := by rfl) : W1 X (.Expr e pos) (dExp da) := ⟨fun {s H as G M D DE} stt hd tk rd =>
  PS.sem (ps_expr pe_sem hs) (he.run (Q := fun _ H1 => DE.nx s H1) stt hd (takes_e tk) fun v H' as' d' M' n h r q => rd.nx s H' as' G M' n (stt.nx n h) q)⟩
theorem w1_doc {x j pos pos'} : W1 X (.Expr (.Constant (.str x) j pos) pos') dNext := ⟨fun {s H as G M D DE} stt hd tk rd => PS.sem ps_doc (rd.nx s H as G M Nx.refl stt hd)⟩
def dRet (da : DTE) : DTS := fun D G M => da G M D.rt (fun x M' => D.ex x G M')
theorem w1_ret (he : WE X e da) : W1 X (.Return (some e) pos) (dRet da) := ⟨fun {s H as G M D DE} stt hd tk rd =>
  PS.sem (ps_ret pe_sem) (he.run (Q := DE.rt) stt hd (takes_e tk) rd.rt)⟩
def dRetN : DTS := fun D G M => D.rt .non M
theorem w1_retN : W1 X (.Return none pos) dRetN := ⟨fun {s H as G M D DE} stt hd tk rd => PS.sem ps_retN (rd.rt .non H as .non M Nx.refl stt.hold (repX_non.mpr rfl) hd)⟩
def dIf (t : DTT) (d1 d2 : DTS) : DTS := fun D G M => t G M (fun c M' => if c = true then d1 D G M' else d2 D G M') (fun x M' => D.ex x G M')
theorem w1_if {aa bb : List Stmt} (hc : WT X c tc) (ha : WS X aa d1) (hb : WS X bb d2) : W1 X (.If c aa bb pos) (dIf tc d1 d2) := ⟨fun {s H as G M D DE} stt hd tk rd =>
  PS.sem (ps_if pt_sem pss_sem pss_sem) (hc.run (Q := fun c H1 => if c = true then semB X aa DE s H1 else semB X bb DE s H1) stt hd (takes_e tk) fun c H' as' M' n h q => by
    cases c with
    | true => exact ha.run (stt.nx n h) q (XW.nx n tk) (rd.step n)
    | false => exact hb.run (stt.nx n h) q (XW.nx n tk) (rd.step n))⟩
theorem w1_pass : W1 X (.Pass pos) dNext := ⟨fun {s H as G M D DE} stt hd tk rd => PS.sem ps_pass (rd.nx s H as G M Nx.refl stt hd)⟩
def dBrk : DTS := fun D G M => D.bk G M
def dCnt : DTS := fun D G M => D.ct G M
theorem w1_break : W1 X (.Break pos) dBrk := ⟨fun {s H as G M D DE} stt hd tk rd => PS.sem ps_break (rd.bk s H as G M Nx.refl stt hd)⟩
theorem w1_continue : W1 X (.Continue pos) dCnt := ⟨fun {s H as G M D DE} stt hd tk rd => PS.sem ps_continue (rd.ct s H as G M Nx.refl stt hd)⟩
/-- a cell at a slot never changes again -/
def fzD (M : Ms) (i : Nat) : Option (D × Ms) := match M[i]? with
  | some (.ml ds) => some (.lst ds, M.set i .dead)
  | some (.mi C fs) => some (.ins C (fs.map (·.1)) (fs.map (·.2)), M.set i .dead)
  | _ => none
theorem fz_ok {i : Nat} {d : D} {M' : Ms} {p : Addr} (hh : Hold K as M H) (h : fzD M i = some (d, M')) (hp : as.l[i]? = some p) : Nx as M H as M' H ∧ Hold K as M' H ∧ rep K (hide as M' H) d (.ref p) := by
  unfold fzD at h
  split at h
  · rename_i ds e
    cases h
    obtain ⟨a, ho, h1, h2, h3, h4, h5, h6⟩ := hh.freeze e (fun z => nomatch z)
    rw [hp] at h1
    cases h1
    obtain ⟨vs, rfl, rl⟩ := h3
    exact ⟨h6, h5, rep_lst h4 rl⟩
  · rename_i C fs e
    cases h
    obtain ⟨a, ho, h1, h2, h3, h4, h5, h6⟩ := hh.freeze e (fun z => nomatch z)
    rw [hp] at h1
    cases h1
    obtain ⟨dx, vs, rfl, rl⟩ := h3
    refine ⟨h6, h5, ?_⟩
    rw [rep]
    exact ⟨p, dx, vs, rfl, h4, rl, by rw [← repL_length rl]; simp⟩
  · cases h
/-- ahead of what follows: the cell in slot i is let go of -/
def dFz (i : Nat) (d : DTS) : DTS := fun D G M => match G[i]? with
  | some (some (.cell j)) => (match fzD M j with
    | some (x, M') => d D (G.set i (some x)) M'
    | none => False)
  | _ => False
theorem stt_fz {i j : Nat} {d : D} {M' : Ms} (h : Stt K as G M s H) (e : G[i]? = some (some (.cell j))) (f : fzD M j = some (d, M')) : Nx as M H as M' H ∧ Stt K as (G.set i (some d)) M' s H := by
  obtain ⟨v, e1, p, e2, e3⟩ := h.slots.2 i _ e
  subst e3
  obtain ⟨n, hh, r⟩ := fz_ok h.hold f e2
  refine ⟨n, hh, ?_⟩
  have z := (h.slots.nx n).set (i := i) (repX_of r)
  have es : s.set i (some (.ref p)) = s := by
    apply List.ext_getElem?
    intro m
    by_cases c : i = m
    · subst c
      rw [List.getElem?_set_self (List.getElem?_eq_some_iff.mp e1).1, e1]
    · rw [List.getElem?_set_ne c]
  rw [es] at z
  exact z
theorem ws_fz {i : Nat} (h : WS X ss d1) : WS X ss (dFz i d1) := ⟨fun {s H as G M D DE} stt hd tk rd => by
  unfold dFz at hd
  split at hd
  · rename_i j e
    split at hd
    · rename_i x M' f
      obtain ⟨n, stt'⟩ := stt_fz stt e f
      exact h.run stt' hd (XW.nx n tk) (rd.step n)
    · exact hd.elim
  · exact hd.elim⟩

/-! ### stores -/
/-- xs[i] = e, xs a cell -/
def stoD (M : Ms) (o i v : D) : Option Ms := match o, i with
  | .cell j, .int z => (match M[j]? with
    | some (.ml ds) => (match ixN ds.length z with
      | some n => if plain v = true then some (M.set j (.ml (ds.set n v))) else none
      | none => none)
    | _ => none)
  | _, _ => none
def dSub (da db dv : DTE) : DTS := fun D G M => dv G M (fun v M1 => da G M1 (fun o M2 => db G M2 (fun i M3 => match stoD M3 o i v with
  | some M' => D.nx G M'
  | none => False) (fun x M' => D.ex x G M')) (fun x M' => D.ex x G M')) (fun x M' => D.ex x G M')
theorem sto_ok {o i v : D} {vo vi vv : V} {M' : Ms} (hh : Hold K as M H) (h : stoD M o i v = some M') (ro : repX K as (hide as M H) o vo) (ri : repX K as (hide as M H) i vi) (rv : repX K as (hide as M H) v vv) :
    ∃ (p : Addr) (xs : List V) (k : Int) (j : Nat), vo = .ref p ∧ vi = .int k ∧ H p = some (.lst xs) ∧ ixN xs.length k = some j ∧ Hold K as M' (upd H p (.lst (xs.set j vv))) ∧ Nx as M H as M' (upd H p (.lst (xs.set j vv))) := by
  unfold stoD at h
  split at h
  · rename_i j z
    split at h
    · rename_i ds e
      split at h
      · rename_i n e2
        split at h
        · rename_i pv
          cases h
          obtain ⟨p, e3, rfl⟩ := ro
          obtain ⟨p', ho, q1, q2, xs, rfl, rl⟩ := hh.cel j _ e (fun z => nomatch z)
          rw [e3] at q1
          cases q1
          obtain ⟨h1, n1⟩ := hh.write (mo' := .ml (ds.set n v)) (ho' := .lst (xs.set n vv)) e (fun z => nomatch z) (fun z => nomatch z) e3 ⟨_, rfl, repL_set n rl (rep_of_plain rv pv)⟩
          exact ⟨p, xs, z, n, rfl, repX_int.mp ri, q2, by rw [← repL_length rl]; exact e2, h1, n1⟩
        · cases h
      · cases h
    · cases h
  · cases h
theorem w1_sub {o i : Expr} {dv : DTE} {pos' : Pos} (ho : WE X o da) (hi : WE X i db) (he : WE X e dv) (hpl : PlainIx i) (hpg : ∀ {to ti : TE} {t : TSet}, PE X o to → PE X i ti → PSet X t → PG X (.Subscript o i pos') (gSub to ti t))
    (hs : swapsWithSole [Expr.Subscript o i pos'] e pos.line X.env = pure false := by rfl) (hw : swappedStores [Expr.Subscript o i pos'] e X.env = pure none := by rfl) : W1 X (.Assign [.Subscript o i pos'] e pos) (dSub da db dv) := ⟨fun {s H as G M D DE} stt hd tk rd =>
  PS.sem (ps_asg pe_sem (hpg pe_sem pe_sem set_list) hs hw) (he.run stt hd (takes_e tk) fun v H1 as1 v' M1 n1 h1 r1 q1 =>
    ho.run (stt.nx n1 h1) q1 (takes_e (XW.nx n1 tk)) fun o' H2 as2 o2 M2 n2 h2 r2 q2 =>
      hi.run (stt.nx (n1.trans n2) h2) q2 (takes_e (XW.nx (n1.trans n2) tk)) fun i' H3 as3 i3 M3 n3 h3 r3 q3 => by
        cases z : stoD M3 o2 i3 v' with
        | none => rw [z] at q3; exact q3.elim
        | some M' =>
          rw [z] at q3
          obtain ⟨p, xs, kk, j, e1, e2, e3, e4, h4, n4⟩ := sto_ok h3 z (repX_nx n3 r2) r3 (repX_nx (n2.trans n3) r1)
          have nn := ((n1.trans n2).trans n3).trans n4
          exact ⟨p, xs, kk, j, e1, e2, e3, e4, rd.nx s _ as3 G M' nn (stt.nx nn h4) q3⟩)⟩
/-- xs.append(e) -/
def appD (M : Ms) (o v : D) : Option Ms := match o with
  | .cell j => (match M[j]? with
    | some (.ml ds) => if plain v = true ∧ ds.length < big then some (M.set j (.ml (ds ++ [v]))) else none
    | _ => none)
  | _ => none
/-- a cell that holds a list -/
def isLC (M : Ms) (o : D) : Bool := match o with
  | .cell j => (match M[j]? with
    | some (.ml _) => true
    | _ => false)
  | _ => false
theorem isLC_inv {o : D} (h : isLC M o = true) : ∃ j ds, o = .cell j ∧ M[j]? = some (.ml ds) := by
  unfold isLC at h
  split at h
  · rename_i j
    split at h
    · rename_i ds e
      exact ⟨j, ds, rfl, e⟩
    · cases h
  · cases h
def dApp (da dv : DTE) : DTE := fun G M k kx => da G M (fun o M1 => isLC M1 o = true ∧ dv G M1 (fun v M2 => match appD M2 o v with
  | some M' => k .non M'
  | none => False) kx) kx
theorem we_append {o : Expr} {dv : DTE} {apos cpos : Pos} (ho : WE X o da) (he : WE X e dv)
    (hbase : attributeBase o "append" X.env (eval o X.env) = eval o X.env := by rfl)
    (hfew : ((backTo cpos (starEach (e :: []) X.env)).all (fun x => !x.1) && (backToKw cpos (keywordEach [] X.env)).all (fun x => x.1.isSome)
      && decide ((e :: []).length + ([] : List Keyword).length + (if ([] : List Keyword).isEmpty then 0 else 1) < 30)) = true := by rfl)
    (hline : (apos.endLine == cpos.line) = true := by rfl) (hs : starEach (e :: []) X.env = (false, eval e X.env) :: starEach [] X.env := by rfl) (hplain : (backTo cpos (starEach [] X.env)).any (·.1) = false := by rfl) :
    WE X (.Call (.Attribute o "append" apos) [e] [] cpos) (dApp da dv) := ⟨fun {s H as G M k kx Q} stt hd tk bk =>
  PE.sem (pe_bm PySem.F.plainAttrs_list PySem.F.slot_list_append PySem.F.type_list_append mt_append pe_sem (pa_cons pe_sem pa_nil hs) hbase hfew hline hs hplain) (ho.run stt hd tk fun v H1 as1 o1 M1 n1 h1 r1 ⟨lc, q1⟩ => by
    obtain ⟨j, ds, ej, em⟩ := isLC_inv lc
    subst ej
    obtain ⟨p, e1, rfl⟩ := id r1
    obtain ⟨p', ho', z1, z2, xs, rfl, rl⟩ := h1.cel j _ em (fun z => nomatch z)
    rw [e1] at z1
    cases z1
    refine ⟨Or.inl ⟨rfl, xs, SqL.of z2⟩, ?_⟩
    refine he.run (stt.nx n1 h1) q1 (XW.nx n1 tk) fun v2 H2 as2 d2 M2 n2 h2 r2 q2 => ?_
    cases z : appD M2 (.cell j) d2 with
    | none => rw [z] at q2; exact q2.elim
    | some M' =>
      rw [z] at q2
      unfold appD at z
      simp only at z
      split at z
      · rename_i ds2 e2
        split at z
        · rename_i pv
          cases z
          obtain ⟨a, ho2, y1, y2, ys, rfl, rl2⟩ := h2.cel j _ e2 (fun z => nomatch z)
          have ea : a = p := by
            have := pre_get n2.pre e1
            rw [y1] at this
            cases this
            rfl
          subst ea
          obtain ⟨h3, n3⟩ := h2.write (mo' := .ml (ds2 ++ [d2])) (ho' := .lst (ys ++ [v2])) e2 (fun z => nomatch z) (fun z => nomatch z) y1 ⟨_, rfl, repL_append rl2 (repL_one (rep_of_plain r2 pv.1))⟩
          have hz : ys.length < sizeLine := by
            rw [← repL_length rl2, sizeLine_eq]
            have := pv.2
            have e9 : ds2.length < 100000 := this
            omega
          exact ⟨a, ys, v2, rfl, rfl, y2, hz, bk _ _ as2 _ _ ((n1.trans n2).trans n3) h3 (repX_non.mpr rfl) q2⟩
        · cases z
      · cases z)⟩

/-! ### loops -/
abbrev DTI := Gm → Ms → (List D → (Ms → Prop) → Ms → Prop) → DX → Prop
/-- as Nx, but more may be out of sight behind -/
structure Nw (as : AS) (M : Ms) (H : Hp) (as' : AS) (M' : Ms) (H' : Hp) : Prop where
  pre : as.l <+: as'.l
  ex : Ex (hide as M H) (hide as' M' H')
theorem Nx.w {as' : AS} {M' : Ms} {H' : Hp} (n : Nx as M H as' M' H') : Nw as M H as' M' H' := ⟨n.pre, n.ex⟩
/-- what an iterator J gives, told by data; gd: what must hold of the store at each turn -/
structure Wk (K : PySem.W.Frag) (as : AS) (M : Ms) (H : Hp) (J : It) (xs : List D) (gd : Ms → Prop) : Prop where
  ex : ∃ (P : Hp → Prop) (Y : Nat → Hp → V → Hp → Prop), Walk J xs.length P Y ∧ (∀ as' M' H', Nw as M H as' M' H' → Hold K as' M' H' → gd M' → P H') ∧
    ∀ i x as' M' H1 H2, i < xs.length → Nw as M H as' M' H1 → Hold K as' M' H1 → gd M' → Y i H1 x H2 → ∃ d, xs[i]? = some d ∧ Hold K as' M' H2 ∧ Nx as' M' H1 as' M' H2 ∧ rep K (hide as' M' H2) d x
def semI (X : Cx) (tg iter : Expr) : TI := fun s H R => ∀ pins sh, Inv X pins s H sh → wpAny (model X.prog X.w) X.A (eval iter X.env) (fun v s1 => wpAny (model X.prog X.w) X.A (pyIter v) (PIE X pins s tg R) X.xe s1) X.xe sh
theorem pi_sem {tg iter : Expr} : PI X tg iter (semI X tg iter) := ⟨fun pins s σ H R I h => h pins s I⟩
structure WI (X : Cx) (tg iter : Expr) (d : DTI) : Prop where
  run : ∀ {s : L2.St} {H : Hp} {as : AS} {G : Gm} {M : Ms} {k : List D → (Ms → Prop) → Ms → Prop} {kx : DX} {R : It → Hp → Prop}, Stt X.K as G M s H → d G M k kx → Takes X (XWe X.K as M H G kx) →
    (∀ J H' as' M' xs gd, Nx as M H as' M' H' → Hold X.K as' M' H' → Wk X.K as' M' H' J xs gd → k xs gd M' → R J H') → semI X tg iter s H R
theorem PI.sem {tg iter : Expr} {wi : TI} (h : PI X tg iter wi) {s : L2.St} {H : Hp} {R : It → Hp → Prop} (q : wi s H R) : semI X tg iter s H R := fun pins sh I => h.run pins sh s H R I q
theorem walk_any {p : Addr} {n : Nat} : Walk (Itl K p) n (fun H => ∃ vs, SqL K H p vs ∧ vs.length = n) (fun i H x H' => H' = H ∧ ∀ vs, SqL K H p vs → vs[i]? = some x) :=
  ⟨fun i H hi ⟨vs, h1, h2⟩ => ⟨vs, vs[i]'(by omega), h1, by simp⟩, fun H ⟨vs, h1, h2⟩ => ⟨vs, h1, by omega⟩, fun i H x H' hi _ y => ⟨y.1, y.2⟩⟩
theorem Wk.list {ds : List D} {p : Addr} {vs : List V} (r : repL K (hide as M H) ds vs) (hq : hide as M H p = some (.lst vs)) : Wk K as M H (Itl K p) ds (fun _ => True) :=
  ⟨⟨_, _, by rw [repL_length r]; exact walk_list (K := K) (a := p) (xs := vs), fun as' M' H' n _ _ => hide_l (n.ex _ _ hq), fun i x as' M' H1 H2 hi n hh g y => by
    obtain ⟨e1, e2⟩ := y
    subst e1
    obtain ⟨d, e3, e4⟩ := repL_get' r e2
    exact ⟨d, e3, hh, Nx.refl, rep_mono n.ex _ _ e4⟩⟩⟩
theorem Wk.tup {ds : List D} {p : Addr} {vs : List V} (r : repL K (hide as M H) ds vs) (hq : SqT K (hide as M H) p vs) : Wk K as M H (Itt K p) ds (fun _ => True) :=
  ⟨⟨_, _, by rw [repL_length r]; exact walk_tup (K := K) (a := p) (xs := vs), fun as' M' H' n _ _ => hide_t (ex_t n.ex hq), fun i x as' M' H1 H2 hi n hh g y => by
    obtain ⟨e1, e2⟩ := y
    subst e1
    obtain ⟨d, e3, e4⟩ := repL_get' r e2
    exact ⟨d, e3, hh, Nx.refl, rep_mono n.ex _ _ e4⟩⟩⟩
theorem Wk.cell {ds : List D} {p : Addr} {i : Nat} (e : as.l[i]? = some p) : Wk K as M H (Itl K p) ds (fun M2 => M2[i]? = some (.ml ds)) := by
  have at_ : ∀ as' M' H', Nw as M H as' M' H' → Hold K as' M' H' → M'[i]? = some (.ml ds) → ∃ vs, H' p = some (.lst vs) ∧ repL K (hide as' M' H') ds vs := fun as' M' H' n hh g => by
    obtain ⟨p2, ho2, y1, y2, ws, rfl, rl2⟩ := hh.cel i _ g (fun z => nomatch z)
    have ep : p2 = p := by
      have := pre_get n.pre e
      rw [y1] at this
      cases this
      rfl
    subst ep
    exact ⟨ws, y2, rl2⟩
  refine ⟨⟨_, _, walk_any, fun as' M' H' n hh g => ?_, fun j x as' M' H1 H2 hi n hh g y => ?_⟩⟩
  · obtain ⟨vs, h1, h2⟩ := at_ as' M' H' n hh g
    exact ⟨vs, SqL.of h1, (repL_length h2).symm⟩
  · obtain ⟨e1, e2⟩ := y
    subst e1
    obtain ⟨vs, h1, h2⟩ := at_ as' M' _ n hh g
    obtain ⟨d, e3, e4⟩ := repL_get' h2 (e2 vs (SqL.of h1))
    exact ⟨d, e3, hh, Nx.refl, e4⟩
/-- over a list: a datum, or a cell that stays as it is -/
def iLst (da : DTE) : DTI := fun G M k kx => da G M (fun d M' => match d with
  | .lst ds => k ds (fun _ => True) M'
  | .cell i => (match M'[i]? with
    | some (.ml ds) => k ds (fun M2 => M2[i]? = some (.ml ds)) M'
    | _ => False)
  | _ => False) kx
def iTupD (da : DTE) : DTI := fun G M k kx => da G M (fun d M' => match d with
  | .tup ds => k ds (fun _ => True) M'
  | _ => False) kx
theorem wi_list {tg : Expr} (h : WE X e da) : WI X tg e (iLst da) := ⟨fun {s H as G M k kx R} stt hd tk bk => PI.sem (pi_list pe_sem) (h.run stt hd tk fun v H' as' d' M' n hh r q => by
  cases d' with
  | lst ds =>
    have r : rep X.K (hide as' M' H') (.lst ds) v := r
    rw [rep] at r
    obtain ⟨p, vs, e1, e2, e3⟩ := r
    exact ⟨p, e1, ⟨vs, hide_l e2⟩, bk _ H' as' M' ds _ n hh (Wk.list e3 e2) q⟩
  | cell i =>
    obtain ⟨p, e1, e2⟩ := r
    simp only at q
    split at q
    · rename_i ds em
      obtain ⟨p', ho, z1, z2, vs, rfl, rl⟩ := hh.cel i _ em (fun z => nomatch z)
      rw [e1] at z1
      cases z1
      exact ⟨p, e2, ⟨vs, SqL.of z2⟩, bk _ H' as' M' ds _ n hh (Wk.cell e1) q⟩
    · exact q.elim
  | _ => exact q.elim)⟩
theorem wi_tup {tg : Expr} (h : WE X e da) : WI X tg e (iTupD da) := ⟨fun {s H as G M k kx R} stt hd tk bk => PI.sem (pi_tup pe_sem) (h.run stt hd tk fun v H' as' d' M' n hh r q => by
  cases d' with
  | tup ds =>
    have r : rep X.K (hide as' M' H') (.tup ds) v := r
    rw [rep] at r
    obtain ⟨p, vs, e1, e2, e3⟩ := r
    exact ⟨p, e1, ⟨vs, hide_t e2⟩, bk _ H' as' M' ds _ n hh (Wk.tup e3 e2) q⟩
  | _ => exact q.elim)⟩
theorem Wk.rng {a b : Int} : Wk K as M H (Itr a (b - a).toNat) (rngD a b) (fun _ => True) := by
  have hl : (rngD a b).length = (b - a).toNat := by simp [rngD]
  refine ⟨⟨_, _, by rw [hl]; exact walk_range, fun _ _ _ _ _ _ => trivial, fun i x as' M' H1 H2 hi n hh g y => ?_⟩⟩
  obtain ⟨e1, e2⟩ := y
  subst e1
  rw [hl] at hi
  exact ⟨.int (a + (i : Nat)), by simp [rngD, hi], hh, Nx.refl, by rw [rep]; exact e2⟩
def iRng1 (da : DTE) : DTI := fun G M k kx => da G M (fun x M1 => match x with
  | .int n => -(2 ^ 40) ≤ n ∧ n < 2 ^ 40 ∧ k (rngD 0 n) (fun _ => True) M1
  | _ => False) kx
def iRng2 (da db : DTE) : DTI := fun G M k kx => da G M (fun x M1 => db G M1 (fun y M2 => match x, y with
  | .int a, .int b => (-(2 ^ 40) ≤ a ∧ a < 2 ^ 40 ∧ -(2 ^ 40) ≤ b ∧ b < 2 ^ 40) ∧ k (rngD a b) (fun _ => True) M2
  | _, _ => False) kx) kx
theorem wi_rng1 {tg : Expr} {p pos' : Pos} (hg : Gl X "range") (hm : X.mg "range" = none) (h : WE X a da) (hs : starEach [a] X.env = [(false, eval a X.env)] := by rfl) : WI X tg (.Call (.Name "range" p) [a] [] pos') (iRng1 da) :=
  ⟨fun {s H as G M k kx R} stt hd tk bk => PI.sem (pi_range1 hg hm (pa_cons pe_sem pa_nil hs) hs) (h.run stt hd tk fun v H' as' d' M' n hh r q => by
    cases d' with
    | int j =>
      obtain ⟨q1, q2, q⟩ := q
      refine ⟨j, by rw [repX_int.mp r], by omega, by omega, bk _ H' as' M' _ _ n hh ?_ q⟩
      have := Wk.rng (K := X.K) (as := as') (M := M') (H := H') (a := 0) (b := j)
      rwa [Int.sub_zero] at this
    | _ => exact q.elim)⟩
theorem wi_rng2 {tg : Expr} {p pos' : Pos} (hg : Gl X "range") (hm : X.mg "range" = none) (ha : WE X a da) (hb : WE X b db) (hs : starEach [a, b] X.env = [(false, eval a X.env), (false, eval b X.env)] := by rfl) (hs2 : starEach [b] X.env = [(false, eval b X.env)] := by rfl)
    (hpl : (backTo pos' (starEach [b] X.env)).any (fun x => x.1) = false := by rfl) : WI X tg (.Call (.Name "range" p) [a, b] [] pos') (iRng2 da db) :=
  ⟨fun {s H as G M k kx R} stt hd tk bk => PI.sem (pi_range2 hg hm (pa_cons pe_sem (pa_cons pe_sem pa_nil hs2) (by rw [hs, hs2])) hs hs2) (ha.run stt hd tk fun v H' as' d' M' n hh r q => hb.run (stt.nx n hh) q (XW.nx n tk) fun v2 H2 as2 d2 M2 n2 h2 r2 q2 => by
    cases d' with
    | int i =>
      cases d2 with
      | int j =>
        obtain ⟨⟨q1, q3, q4, q5⟩, q⟩ := q2
        exact ⟨i, j, by rw [repX_int.mp r, repX_int.mp r2], ⟨by omega, by omega, by omega, by omega⟩, bk _ H2 as2 M2 _ _ (n.trans n2) h2 Wk.rng q⟩
      | _ => exact q2.elim
    | _ => exact q2.elim)⟩

/-! ### targets -/
abbrev DBd := D → Gm → Option Gm
/-- but for the slots ts, s' is s -/
def But (ts : List Nat) (s s' : L2.St) : Prop := s'.length = s.length ∧ ∀ j, j ∉ ts → s'[j]? = s[j]?
theorem But.refl {ts : List Nat} {s : L2.St} : But ts s s := ⟨rfl, fun _ _ => rfl⟩
theorem But.trans {ts us : List Nat} {s s1 s2 : L2.St} (h : But ts s s1) (h2 : But us s1 s2) : But (ts ++ us) s s2 := ⟨h2.1.trans h.1, fun j hj => by
  rw [List.mem_append, not_or] at hj
  exact (h2.2 j hj.2).trans (h.2 j hj.1)⟩
structure WG (X : Cx) (tg : Expr) (g : TG) (ts : List Nat) (bd : DBd) : Prop where
  pg : PG X tg g
  rd : ∀ {s : L2.St} {H : Hp} {as : AS} {G G' : Gm} {M : Ms} {d : D} {v : V} {Q : L2.St → Hp → Prop}, Stt X.K as G M s H → rep X.K (hide as M H) d v → bd d G = some G' → (∀ s', But ts s s' → Stt X.K as G' M s' H → Q s' H) → g v s H Q
def bName (i : Nat) : DBd := fun d G => some (G.set i (some d))
theorem wg_name {i : Nat} {x : Str} (hN : X.N.Nodup) (hi : X.N[i]? = some x) (hx : Loc X.env.scope x) (hf : X.fn x = true ∨ X.env.scope.names.lookup x = some .local := by first | exact .inl rfl | exact .inr rfl | assumption) : WG X (.Name x pos) (gName i) [i] (bName i) :=
  ⟨pg_name hN hi hx hf, fun stt r e k => by
    cases e
    exact k _ ⟨by simp, fun j hj => List.getElem?_set_ne (fun z => hj (by simp [z]))⟩ (stt.set (repX_of r))⟩
def bAll : List DBd → List D → Gm → Option Gm
  | [], _, G => some G
  | b :: bs, d :: ds, G => (match b d G with
    | some G1 => bAll bs ds G1
    | none => none)
  | _, _, _ => none
/-- several targets, one behind another -/
structure WGs (X : Cx) (tgs : List Expr) (g : TGs) (ts : List Nat) (bs : List DBd) : Prop where
  pg : PGs X tgs g
  rd : ∀ {s : L2.St} {H : Hp} {as : AS} {G G' : Gm} {M : Ms} {ds : List D} {vs : List V} {Q : L2.St → Hp → Prop}, Stt X.K as G M s H → repL X.K (hide as M H) ds vs → bAll bs ds G = some G' → ds.length = bs.length → (∀ s', But ts s s' → Stt X.K as G' M s' H → Q s' H) → g vs s H Q
theorem wgs_nil : WGs X [] gNil [] [] := ⟨pgs_nil, fun {s H as G G' M ds vs Q} stt r e hl k => by
  have e0 : ds = [] := List.length_eq_zero_iff.mp hl
  subst e0
  rw [repL] at r
  cases e
  exact ⟨r, k _ But.refl stt⟩⟩
theorem wgs_cons {tg : Expr} {tgs : List Expr} {bd : DBd} {bs : List DBd} {ts us : List Nat} {g : TG} {gs : TGs} (h : WG X tg g ts bd) (t : WGs X tgs gs us bs) (mk : PGs X (tg :: tgs) (gCons g gs)) : WGs X (tg :: tgs) (gCons g gs) (ts ++ us) (bd :: bs) := by
  refine ⟨mk, fun {s H as G G' M ds vs Q} stt r e hl k => ?_⟩
  cases ds with
  | nil => cases hl
  | cons d ds =>
    rw [repL] at r
    obtain ⟨v, r', rfl, r1, r2⟩ := r
    unfold bAll at e
    cases z : bd d G with
    | none => rw [z] at e; cases e
    | some G1 =>
      rw [z] at e
      exact ⟨v, r', rfl, h.rd stt r1 z fun s' b1 stt' => t.rd stt' r2 e (by simpa using hl) fun s2 b2 => k s2 (b1.trans b2)⟩
def bTup (bs : List DBd) : DBd := fun d G => match d with
  | .tup ds => if ds.length = bs.length then bAll bs ds G else none
  | _ => none
theorem wg_tup {es : List Expr} {kk : Nat} {bs : List DBd} {ts : List Nat} {gs : TGs} (h : WGs X es gs ts bs) (mk : PG X (.Tuple es kk pos) (gTup X.K bs.length gs)) : WG X (.Tuple es kk pos) (gTup X.K bs.length gs) ts (bTup bs) := by
  refine ⟨mk, fun {s H as G G' M d v Q} stt r e k => ?_⟩
  unfold bTup at e
  split at e
  · rename_i ds
    split at e
    · rename_i hl
      rw [rep] at r
      obtain ⟨p, vs, rfl, r1, r2⟩ := r
      exact ⟨p, vs, rfl, hide_t r1, by rw [← repL_length r2, hl], h.rd stt r2 e hl k⟩
    · cases e
  · cases e

/-! ### for, while -/
def forD (bd : DBd) (body : DTS) (gd : Ms → Prop) (D : DEnds) : List DL.D → Gm → Ms → Prop
  | [], G, M => gd M ∧ D.nx G M
  | x :: xs, G, M => gd M ∧ (match bd x G with
    | some G' => body { D with nx := forD bd body gd D xs, ct := forD bd body gd D xs, bk := D.nx } G' M
    | none => False)
def dFor (di : DTI) (bd : DBd) (body : DTS) : DTS := fun D G M => di G M (fun xs gd M' => forD bd body gd D xs G M') (fun x M' => D.ex x G M')
theorem forD_gd {bd : DBd} {body : DTS} {gd : Ms → Prop} {D : DEnds} {xs : List DL.D} {G : Gm} {M : Ms} (h : forD bd body gd D xs G M) : gd M := by
  cases xs with
  | nil => exact h.1
  | cons x xs => exact h.1
theorem w1_for {tg iter : Expr} {g : TG} {ts : List Nat} {body : List Stmt} {di : DTI} {bd : DBd} {db : DTS} (hp : PassesOwn (model X.prog X.w) X.A X.env X.xe) (hc : X.calm = true) (hi : WI X tg iter di) (hg : WG X tg g ts bd) (hb : WS X body db)
    (hs : ∀ x, foldedSetIterable iter X.env x = pure x := by intro _; rfl) : W1 X (.For tg iter body [] pos) (dFor di bd db) := ⟨fun {s H as G M D DE} stt hd tk rd => by
  refine PS.sem (ps_for hp hc pi_sem hg.pg pss_sem hs) (hi.run stt hd (takes_e tk) fun J H1 as1 M1 xs gd n1 h1 wk q => ?_)
  obtain ⟨P, Y, W, hP, hY⟩ := wk.ex
  refine for_it W (fun i s' H' => ∃ as' G' M', Nx as1 M1 H1 as' M' H' ∧ Stt X.K as' G' M' s' H' ∧ forD bd db gd D (xs.drop i) G' M') ⟨as1, G, M1, Nx.refl, stt.nx n1 h1, q⟩ ?_ ?_ ?_
  · rintro i s' H' hi' ⟨as', G', M', n', stt', q'⟩
    exact hP as' M' H' n'.w stt'.hold (forD_gd q')
  · rintro i x s' H' H2 hi' ⟨as', G', M', n', stt', q'⟩ y
    have gdm := forD_gd q'
    obtain ⟨d, e1, h2, n2, r⟩ := hY i x as' M' H' H2 hi' n'.w stt'.hold gdm y
    have ed : xs.drop i = d :: xs.drop (i + 1) := by
      obtain ⟨hlt, e⟩ := List.getElem?_eq_some_iff.mp e1
      rw [List.drop_eq_getElem_cons hlt, e]
    rw [ed] at q'
    obtain ⟨_, q'⟩ := q'
    cases z : bd d G' with
    | none => rw [z] at q'; exact q'.elim
    | some G2 =>
      rw [z] at q'
      have n12 := n1.trans (n'.trans n2)
      refine hg.rd (stt'.nx n2 h2) r z fun s2 _ stt2 => hb.run stt2 q' (XW.nx n12 tk) ⟨fun s3 H3 as3 G3 M3 n3 stt3 q3 => ⟨as3, G3, M3, (n'.trans n2).trans n3, stt3, q3⟩, fun s3 H3 as3 G3 M3 n3 stt3 q3 => rd.nx s3 H3 as3 G3 M3 (n12.trans n3) stt3 q3, fun s3 H3 as3 G3 M3 n3 stt3 q3 => ⟨as3, G3, M3, (n'.trans n2).trans n3, stt3, q3⟩, rd.rt.nx n12⟩
  · rintro s' H' ⟨as', G', M', n', stt', q'⟩
    rw [List.drop_length] at q'
    exact rd.nx s' H' as' G' M' (n1.trans n') stt' q'.2⟩
def whileD (t : DTT) (body : DTS) (D : DEnds) : Nat → Gm → Ms → Prop
  | 0, _, _ => False
  | n + 1, G, M => t G M (fun c M' => if c = true then body { D with nx := whileD t body D n, ct := whileD t body D n, bk := D.nx } G M' else D.nx G M') (fun x M' => D.ex x G M')
def dWhile (t : DTT) (body : DTS) : DTS := fun D G M => ∃ n, whileD t body D n G M
theorem w1_while {body : List Stmt} {db : DTS} (hp : PassesOwn (model X.prog X.w) X.A X.env X.xe) (hc : WT X c tc) (hb : WS X body db) : W1 X (.While c body [] pos) (dWhile tc db) := ⟨fun {s H as G M D DE} stt hd tk rd => by
  obtain ⟨n, hd⟩ := hd
  refine PS.sem (ps_while hp pt_sem pss_sem) ⟨fun m s' H' => ∃ as' G' M', Nx as M H as' M' H' ∧ Stt X.K as' G' M' s' H' ∧ whileD tc db D m G' M', ⟨n, as, G, M, Nx.refl, stt, hd⟩, ?_⟩
  rintro m s' H' ⟨as', G', M', n', stt', q⟩
  cases m with
  | zero => exact q.elim
  | succ m =>
    refine hc.run (Q := fun b H1 => if b = true then ∃ N : L2.St → Hp → Prop, (∀ s2 H2, N s2 H2 → ∃ m', m' < m + 1 ∧ ∃ as' G' M', Nx as M H as' M' H2 ∧ Stt X.K as' G' M' s2 H2 ∧ whileD tc db D m' G' M') ∧ semB X body { DE with nx := N, ct := N, bk := DE.nx } s' H1 else DE.nx s' H1) stt' q (takes_e (XW.nx n' tk)) fun b H1 as1 M1 n1 h1 q1 => ?_
    have n12 := n'.trans n1
    cases b with
    | true =>
      rw [if_pos rfl] at q1 ⊢
      refine ⟨fun s2 H2 => ∃ as' G' M', Nx as M H as' M' H2 ∧ Stt X.K as' G' M' s2 H2 ∧ whileD tc db D m G' M', fun s2 H2 h => ⟨m, Nat.lt_succ_self m, h⟩, ?_⟩
      exact hb.run (stt'.nx n1 h1) q1 (XW.nx n12 tk) ⟨fun s3 H3 as3 G3 M3 n3 stt3 q3 => ⟨as3, G3, M3, n12.trans n3, stt3, q3⟩, fun s3 H3 as3 G3 M3 n3 stt3 q3 => rd.nx s3 H3 as3 G3 M3 (n12.trans n3) stt3 q3, fun s3 H3 as3 G3 M3 n3 stt3 q3 => ⟨as3, G3, M3, n12.trans n3, stt3, q3⟩, rd.rt.nx n12⟩
    | false =>
      rw [if_neg Bool.false_ne_true] at q1 ⊢
      exact rd.nx s' H1 as1 G' M1 n12 (stt'.nx n1 h1) q1⟩
end
end DL

/-! DLe: comprehensions, defs and their calls, instances. -/
namespace DL
open PySem PySem.Spec PyProof.Rows L2 Evl
open Classical

section
variable {X : Cx} {K : PySem.W.Frag} {as as1 : AS} {M M1 : Ms} {H H1 : Hp} {G : Gm} {s : L2.St} {kx : DX} {k : DK} {Q : VK} {a b c e : Expr} {da db dc : DTE} {ta tb tc : DTT} {pos : Pos}
/-! ### comprehensions -/
def wipeG (G : Gm) : List Nat → Gm
  | [] => G
  | v :: vs => (wipeG G vs).set v none
theorem Slots.none {i : Nat} (h : Slots K as H G s) : Slots K as H (G.set i none) (s.set i none) := by
  refine ⟨by simpa using h.1, fun j d' e => ?_⟩
  by_cases c : i = j
  · subst c
    by_cases hi : i < G.length
    · rw [List.getElem?_set_self hi] at e
      cases e
    · rw [List.getElem?_eq_none (by simpa using hi)] at e
      cases e
  · rw [List.getElem?_set_ne c] at e
    rw [List.getElem?_set_ne c]
    exact h.2 j d' e
theorem Slots.wipe (h : Slots K as H G s) : ∀ vs : List Nat, Slots K as H (wipeG G vs) (L2.wipe s vs)
  | [] => h
  | v :: vs => (h.wipe vs).none
/-- the tests of a comprehension -/
structure WTs (X : Cx) (ifs : List Expr) (d : DTT) : Prop where
  run : ∀ {s : L2.St} {H : Hp} {as : AS} {G : Gm} {M : Ms} {k : Bool → Ms → Prop}, Stt X.K as G M s H → d G M k X0 → ∃ t, PTs X ifs t ∧ ∀ {Q : Bool → Hp → Prop}, (∀ b H' as' M', Nx as M H as' M' H' → Hold X.K as' M' H' → k b M' → Q b H') → t s H Q
def semTs (X : Cx) (ifs : List Expr) : TT := fun s H Q => ∀ pins sh, Inv X pins s H sh →
  wpAny (model X.prog X.w) X.A (forIn ifs true fun c r => if r = true then do let ok ← isTrue c X.env (eval c X.env); pure (ForInStep.yield ok) else pure (ForInStep.yield r)) (TP X pins s Q) X.xe sh
theorem pts_sem {ifs : List Expr} : PTs X ifs (semTs X ifs) := ⟨fun pins s σ H Q I h => h pins s I⟩
theorem PTs.sem {ifs : List Expr} {t : TT} (h : PTs X ifs t) {s : L2.St} {H : Hp} {Q : Bool → Hp → Prop} (q : t s H Q) : semTs X ifs s H Q := fun pins sh I => h.run pins sh s H Q I q
structure WC (X : Cx) (ifs : List Expr) (d : DTT) : Prop where
  run : ∀ {s : L2.St} {H : Hp} {as : AS} {G : Gm} {M : Ms} {k : Bool → Ms → Prop} {Q : Bool → Hp → Prop}, Stt X.K as G M s H → d G M k X0 → Takes X (XWe X.K as M H G X0) →
    (∀ b H' as' M', Nx as M H as' M' H' → Hold X.K as' M' H' → k b M' → Q b H') → semTs X ifs s H Q
def dYes : DTT := fun _ M k _ => k true M
theorem wc_nil : WC X [] dYes := ⟨fun {s H as G M k Q} st hd tk bk => PTs.sem pts_nil (bk true H as M Nx.refl st.hold hd)⟩
theorem wc_one (h : WT X c tc) : WC X [c] tc := ⟨fun st hd tk bk => PTs.sem (pts_one pt_sem) (h.run st hd tk bk)⟩
theorem takesX0 : Takes X (XWe X.K as M H G X0) := fun u sh x => by
  obtain ⟨_, _, _, _, _, _, _, _, _, _, _, _, _, _, _, _, z⟩ := x
  obtain ⟨_, _, _, _, _, _, _, _, w⟩ := z
  exact w.elim
/-- [elt for tg in iter if ..]: the items that come, one behind another -/
def lcD (bd : DBd) (dt : DTT) (de : DTE) (gd : Ms → Prop) (G : Gm) : List D → List D → Ms → (List D → Ms → Prop) → Prop
  | [], acc, M, k => gd M ∧ k acc M
  | x :: xs, acc, M, k => gd M ∧ (match bd x G with
    | some G' => dt G' M (fun c M1 => if c = true then de G' M1 (fun y M2 => plain y = true ∧ lcD bd dt de gd G xs (acc ++ [y]) M2 k) X0 else lcD bd dt de gd G xs acc M1 k) X0
    | none => False)
def dLc (di : DTI) (bd : DBd) (dt : DTT) (de : DTE) (vs : List Nat) (k2 : List D → Ms → DK → Prop) : DTE := fun G M k kx => di G M (fun xs gd M1 => xs.length ≤ big ∧ lcD bd dt de gd (wipeG G vs) xs [] M1 (fun acc M2 => k2 acc M2 k)) kx
theorem lcD_gd {bd : DBd} {dt : DTT} {de : DTE} {gd : Ms → Prop} {G : Gm} {xs acc : List D} {M : Ms} {k : List D → Ms → Prop} (h : lcD bd dt de gd G xs acc M k) : gd M := by
  cases xs with
  | nil => exact h.1
  | cons x xs => exact h.1
/-- what becomes of a list that was made -/
def FinK (k2 : List D → Ms → DK → Prop) : Prop := ∀ {K : PySem.W.Frag} {as : AS} {M : Ms} {H : Hp} {L : Addr} {acc : List D} {vs : List V} {k : DK}, ¬ as.pv L → Hold K (as.prv L) M H → H L = some (.lst vs) → repL K (hide (as.prv L) M H) acc vs → k2 acc M k →
  ∃ as3 M3 d, k d M3 ∧ Hold K as3 M3 H ∧ as.l <+: as3.l ∧ as3.pv = as.pv ∧ Ex (hide (as.prv L) M H) (hide as3 M3 H) ∧ repX K as3 (hide as3 M3 H) d (.ref L)
theorem fin_lst : FinK toLst := fun {K as M H L acc vs k} np hh hl r q => by
  obtain ⟨h1, e1, nl⟩ := hh.show_ np
  exact ⟨as, M, .lst acc, q, h1, List.prefix_refl _, rfl, e1, repX_of (rep_lst (by rw [hide_out nl]; exact hl) (repL_mono e1 _ _ r))⟩
theorem fin_cell : FinK toCell := fun {K as M H L acc vs k} np hh hl r q => by
  have nm : L ∉ as.l := (hh.pt L (Or.inr rfl)).2
  have lv : ∀ b, live (as.snoc L) (M ++ [.ml acc]) b → live (as.prv L) M b := fun b h => by
    rcases h with ⟨i, m, e, d, ha⟩ | hp
    · have ha : (as.l ++ [L])[i]? = some b := ha
      have hlen : as.l.length = M.length := hh.len
      by_cases hi : i < M.length
      · rw [List.getElem?_append_left hi] at e
        rw [List.getElem?_append_left (by rw [hlen]; exact hi)] at ha
        exact Or.inl ⟨i, m, e, d, ha⟩
      · rw [List.getElem?_append_right (by omega)] at e
        rw [List.getElem?_append_right (by rw [hlen]; omega), hlen] at ha
        have z : i - M.length = 0 := by
          rcases Nat.eq_zero_or_pos (i - M.length) with z | z
          · exact z
          · rw [List.getElem?_eq_none (by simpa using Nat.succ_le_of_lt z)] at e
            cases e
        rw [z] at ha
        exact Or.inr (Or.inr (by simpa using ha.symm))
    · exact Or.inr (Or.inl hp)
  have ee : Ex (hide (as.prv L) M H) (hide (as.snoc L) (M ++ [.ml acc]) H) := fun b u hb => by
    obtain ⟨n, q⟩ := hide_some hb
    rw [hide_out fun z => n (lv b z)]
    exact q
  refine ⟨as.snoc L, (M ++ [MO.ml acc] : List MO), D.cell M.length, q, ⟨?_, ?_, fun i m hi hdm => ?_, fun a ha => ?_, fun a ha => ⟨(hh.pt a (Or.inl ha)).1, ?_⟩⟩, ⟨[L], rfl⟩, rfl, ee, L, ?_, rfl⟩
  · show (as.l ++ [L]).length = _
    rw [List.length_append, show as.l.length = M.length from hh.len]
    simp
  · exact hh.nd.snoc hh.len nm
  · by_cases hl' : i < M.length
    · rw [List.getElem?_append_left hl'] at hi
      obtain ⟨a, o, h1, h2, h3⟩ := hh.cel i m hi hdm
      exact ⟨a, o, pre_get ⟨[L], rfl⟩ h1, h2, mrep_mono (show (as.prv L).l <+: (as.snoc L).l from ⟨[L], rfl⟩) ee h3⟩
    · rw [List.getElem?_append_right (by omega)] at hi
      have z : i - M.length = 0 := by
        rcases Nat.eq_zero_or_pos (i - M.length) with z | z
        · exact z
        · rw [List.getElem?_eq_none (by simpa using Nat.succ_le_of_lt z)] at hi
          cases hi
      rw [z] at hi
      have e : MO.ml acc = m := by simpa using hi
      subst e
      have ei : i = as.l.length := by
        have : as.l.length = M.length := hh.len
        omega
      exact ⟨L, .lst vs, by show (as.l ++ [L])[i]? = _; rw [ei]; simp, hl, vs, rfl, repL_mono ee _ _ r⟩
  · rcases List.mem_append.mp (show a ∈ as.l ++ [L] from ha) with ha | ha
    · exact hh.tr a ha
    · have : a = L := by simpa using ha
      rw [this, hl]
      exact fun q => nomatch q
  · show a ∉ as.l ++ [L]
    intro hm
    rcases List.mem_append.mp hm with hm | hm
    · exact (hh.pt a (Or.inl ha)).2 hm
    · have : a = L := by simpa using hm
      exact np (this ▸ ha)
  · show (as.l ++ [L])[M.length]? = _
    rw [← show as.l.length = M.length from hh.len]
    simp
theorem wipe_get (s : L2.St) (j : Nat) : ∀ vs : List Nat, (L2.wipe s vs)[j]? = if j ∈ vs then (s[j]?).map (fun _ => none) else s[j]?
  | [] => by simp [L2.wipe]
  | v :: vs => by
    unfold L2.wipe
    by_cases c : v = j
    · subst c
      rw [List.getElem?_set_self', wipe_get s v vs]
      simp
      cases s[v]? <;> by_cases z : v ∈ vs <;> simp [z]
    · rw [List.getElem?_set_ne c, wipe_get s j vs]
      have : (j ∈ v :: vs) ↔ j ∈ vs := by
        simp
        intro z
        exact absurd z.symm c
      by_cases z : j ∈ vs <;> simp [z, this, Ne.symm c]
theorem wipe_but {s s' : L2.St} {ts vs : List Nat} (hs : ∀ t ∈ ts, t ∈ vs) (b : But ts (L2.wipe s vs) s') : L2.wipe s' vs = L2.wipe s vs := by
  apply List.ext_getElem?
  intro j
  rw [wipe_get s' j vs]
  by_cases c : j ∈ vs
  · rw [if_pos c, wipe_get s j vs, if_pos c]
    have hl := b.1
    rw [L2.wipe_length] at hl
    by_cases z : j < s.length
    · rw [List.getElem?_eq_getElem (by omega), List.getElem?_eq_getElem z]
      rfl
    · rw [List.getElem?_eq_none (by omega), List.getElem?_eq_none (by omega)]
  · rw [if_neg c]
    exact b.2 j fun z => c (hs j z)
theorem prv_eta {as as' : AS} {L : Addr} (h : as'.pv = (as.prv L).pv) : as' = (AS.mk as'.l as.pv).prv L := by
  cases as'
  simp only [AS.prv] at h ⊢
  rw [h]
/-- the comprehension as a piece of the reading -/
theorem lc_read {tg iter : Expr} {di : DTI} {bd : DBd} {dt : DTT} {de : DTE} {vs ts : List Nat} {k2 : List D → Ms → DK → Prop} {Y : Cx} {g : TG} (hK : Y.K = X.K) (hi : WI X tg iter di) (hts : ∀ t ∈ ts, t ∈ vs) (fk : FinK k2)
    (rg : ∀ {s : L2.St} {H : Hp} {as : AS} {G G' : Gm} {M : Ms} {d : D} {v : V} {Q : L2.St → Hp → Prop}, Stt X.K as G M s H → rep X.K (hide as M H) d v → bd d G = some G' → (∀ s', But ts s s' → Stt X.K as G' M s' H → Q s' H) → g v s H Q)
    {tt : TT} {te : TE} (ht : ∀ {s : L2.St} {H : Hp} {as : AS} {G : Gm} {M : Ms} {k : Bool → Ms → Prop} {Q : Bool → Hp → Prop}, Stt X.K as G M s H → dt G M k X0 → (∀ b H' as' M', Nx as M H as' M' H' → Hold X.K as' M' H' → k b M' → Q b H') → tt s H Q)
    (he : ∀ {s : L2.St} {H : Hp} {as : AS} {G : Gm} {M : Ms} {k : DK} {Q : VK}, Stt X.K as G M s H → de G M k X0 → Back X.K as M H k Q → te s H Q)
    {k : DK} {Q : VK} (st : Stt X.K as G M s H) (hd : dLc di bd dt de vs k2 G M k kx) (tk : Takes X (XWe X.K as M H G kx)) (bk : Back X.K as M H k Q) : tLc (semI X tg iter) g tt te vs s H Q := by
  refine hi.run st hd tk fun J H1 as1 M1 xs gd n1 h1 wk ⟨hlen, q⟩ => ?_
  intro L hL
  obtain ⟨P, Yy, W, hP, hY⟩ := wk.ex
  have npv : ¬ as1.pv L := fun z => (h1.pt L z).1 hL
  obtain ⟨h2, e2⟩ := h1.hid (o := .lst []) hL
  have st1 := st.nx n1 h1
  refine lc_it (H1 := H1) W (fun i H' => ∃ (as' : AS) (M' : Ms) (acc : List D) (ws : List V), as1.l <+: as'.l ∧ as'.pv = as1.pv ∧ Ex (hide as1 M1 H1) (hide (as'.prv L) M' H') ∧ (∀ b, as1.pv b → H' b = H1 b) ∧ Hold X.K (as'.prv L) M' H' ∧ H' L = some (.lst ws) ∧
      repL X.K (hide (as'.prv L) M' H') acc ws ∧ acc.length ≤ i ∧ lcD bd dt de gd (wipeG G vs) (xs.drop i) acc M' (fun acc M2 => k2 acc M2 k))
    ⟨as1, M1, [], [], List.prefix_refl _, rfl, e2, fun b hb => upd_ne (fun z => npv (by rw [← z]; exact hb)), h2, upd_same, repL_nil, Nat.le_refl _, q⟩ ?_ ?_ ?_
  · rintro i H' hi' ⟨as', M', acc, ws, p1, p2, p3, p4, p5, p6, p7, p8, p9⟩
    exact hP (as'.prv L) M' H' ⟨p1, p3⟩ p5 (lcD_gd p9)
  · rintro i x H' H3 hi' ⟨as', M', acc, ws, p1, p2, p3, p4, p5, p6, p7, p8, p9⟩ y
    have gdm := lcD_gd p9
    obtain ⟨d, f1, f2, f3, f4⟩ := hY i x (as'.prv L) M' H' H3 hi' ⟨p1, p3⟩ p5 gdm y
    have ed : xs.drop i = d :: xs.drop (i + 1) := by
      obtain ⟨hlt, e⟩ := List.getElem?_eq_some_iff.mp f1
      rw [List.drop_eq_getElem_cons hlt, e]
    rw [ed] at p9
    obtain ⟨_, p9⟩ := p9
    have hx : i < xs.length := hi'
    have ex3 : Ex (hide as1 M1 H1) (hide (as'.prv L) M' H3) := p3.trans f3.ex
    have nl3 : H3 L = some (.lst ws) := by rw [f3.prv L (Or.inr rfl)]; exact p6
    cases z : bd d (wipeG G vs) with
    | none => rw [z] at p9; exact p9.elim
    | some G2 =>
      rw [z] at p9
      have sw : Stt X.K (as'.prv L) (wipeG G vs) M' (L2.wipe s vs) H3 := ⟨f2, by
        have z1 := st1.slots.wipe vs
        exact ⟨z1.1, fun j d' ej => by
          obtain ⟨v, y1, y2⟩ := z1.2 j d' ej
          exact ⟨v, y1, repX_mono (as := as1) (as1 := as'.prv L) p1 ex3 y2⟩⟩⟩
      refine rg sw f4 z fun s2 b2 st2 => ⟨wipe_but hts b2, ?_⟩
      refine ht st2 p9 fun c H4 as4 M4 n4 h4 q4 => ?_
      have ea4 := prv_eta (as := as') (n4.pv)
      cases c with
      | false =>
        rw [if_neg Bool.false_ne_true] at q4 ⊢
        rw [ea4] at h4
        refine ⟨⟨as4.l, as'.pv⟩, M4, acc, ws, p1.trans n4.pre, p2, ?_, fun b hb => ?_, h4, ?_, ?_, by omega, q4⟩
        · rw [← ea4]
          exact ex3.trans n4.ex
        · have hb' : as'.pv b := by rw [p2]; exact hb
          rw [n4.prv b (Or.inl hb'), f3.prv b (Or.inl hb'), p4 b hb]
        · rw [n4.prv L (Or.inr rfl)]
          exact nl3
        · rw [← ea4]
          exact repL_mono (f3.ex.trans n4.ex) _ _ p7
      | true =>
        rw [if_pos rfl] at q4 ⊢
        refine he (st2.nx n4 h4) q4 fun w H5 as5 d5 M5 n5 h5 r5 q5 => ?_
        obtain ⟨pl, q5⟩ := q5
        have n45 := n4.trans n5
        have ea5 := prv_eta (as := as') (n45.pv)
        have l5 : H5 L = some (.lst ws) := by
          rw [n45.prv L (Or.inr rfl)]
          exact nl3
        have wl : ws.length = acc.length := (repL_length p7).symm
        refine ⟨ws, l5, by rw [wl, sizeLine_eq]; have : xs.length ≤ 100000 := hlen; omega, ?_⟩
        rw [ea5] at h5
        have e6 := hide_prv_upd (as := ⟨as5.l, as'.pv⟩) (M := M5) (H := H5) (p := L) (o := .lst (ws ++ [w])) (fun _ => trivial)
        refine ⟨⟨as5.l, as'.pv⟩, M5, acc ++ [d5], ws ++ [w], p1.trans n45.pre, p2, ?_, fun b hb => ?_, h5.hidW, upd_same, ?_, by simp; omega, q5⟩
        · rw [e6, ← ea5]
          exact ex3.trans n45.ex
        · have hb' : as'.pv b := by rw [p2]; exact hb
          have zz : b ≠ L := fun z => npv (by rw [← z]; exact hb)
          rw [upd_ne zz, n45.prv b (Or.inl hb'), f3.prv b (Or.inl hb'), p4 b hb]
        · rw [e6, ← ea5]
          exact repL_append (repL_mono (f3.ex.trans n45.ex) _ _ p7) (repL_one (rep_of_plain r5 pl))
  · rintro H' ⟨as', M', acc, ws, p1, p2, p3, p4, p5, p6, p7, p8, p9⟩
    rw [List.drop_length] at p9
    obtain ⟨as3, M3, d, g1, g2, g3, g4, g5, g6⟩ := fk (fun z => npv (by rw [← p2]; exact z)) p5 p6 p7 p9.2
    exact bk _ H' as3 d M3 (n1.trans ⟨p1.trans g3, g4.trans p2, p3.trans g5, p4⟩) g2 g6 g1
abbrev Blk (X : Cx) (scope : Scope) : Type := Shared × Hp × Addr × List (Str × Addr) × List Addr
abbrev bk (X : Cx) (scope : Scope) (s : Shared) (H : Hp) (C : Addr) (cl : List (Str × Addr)) (fp : List Addr) : Cx := X.blk s H scope (compEnvC scope cl C X.env) fp
def semEb (X : Cx) (scope : Scope) (e : Expr) : TE := fun σ H Q => ∀ s H0 C cl fp, semE (bk X scope s H0 C cl fp) e σ H Q
def semTb (X : Cx) (scope : Scope) (ifs : List Expr) : TT := fun σ H Q => ∀ s H0 C cl fp, semTs (bk X scope s H0 C cl fp) ifs σ H Q
section
variable {tg iter elt : Expr} {ifs : List Expr} {scope : Scope} {own : List (Str × Nat)} {di : DTI} {bd : DBd} {dt : DTT} {de : DTE} {ts : List Nat} {g : TG} {k2 : List D → Ms → DK → Prop}
theorem we_lc (fk : FinK k2) (hc : X.calm = true) (hN : X.N.Nodup) (ok : BlkOk X.N X.env.scope scope own) (hi : WI X tg iter di) (hts : ∀ t ∈ ts, t ∈ own.map (·.2))
    (hg : ∀ (s : Shared) (H : Hp) (C : Addr) (cl : List (Str × Addr)) (fp : List Addr), WG (bk X scope s H C cl fp) tg g ts bd)
    (ht : ∀ (s : Shared) (H : Hp) (C : Addr) (cl : List (Str × Addr)) (fp : List Addr), WC (bk X scope s H C cl fp) ifs dt)
    (he : ∀ (s : Shared) (H : Hp) (C : Addr) (cl : List (Str × Addr)) (fp : List Addr), WE (bk X scope s H C cl fp) elt de) (hs : ∀ x, foldedSetIterable iter X.env x = pure x := by intro _; rfl) :
    WE X (.ListComp elt [⟨tg, iter, ifs, 0⟩] scope pos) (dLc di bd dt de (own.map (·.2)) k2) := ⟨fun {s H as G M k kx Q} st hd tk b pins0 sh0 I0 =>
  PE.sem (pe_lc (te := semEb X scope elt) (tt := semTb X scope ifs) hc hN pi_sem ok (fun s H C cl fp => (hg s H C cl fp).pg) (fun s H C cl fp => ⟨fun pins sh σ H Q I h => h s _ C cl fp pins sh I⟩) (fun s H C cl fp => ⟨fun pins sh σ H Q I h => h s _ C cl fp pins sh I⟩) hs)
    (lc_read (Y := X) rfl hi hts fk (fun {s' H' as' G1 G2 M' d v Q'} => (hg sh0 (fun _ => none) 0 [] []).rd)
      (fun st' hd' k' s H0 C cl fp => (ht s H0 C cl fp).run st' hd' takesX0 k') (fun st' hd' k' s H0 C cl fp => (he s H0 C cl fp).run st' hd' takesX0 k') st hd tk b) pins0 sh0 I0⟩
/-- x = [..] on one line, x a local of the def -/
theorem w1_asgLc {i : Nat} {y : Str} {py spos : Pos} (fk : FinK k2) (hc : X.calm = true) (hN : X.N.Nodup) (hy : X.N[i]? = some y) (hyl : X.env.scope.names.lookup y = some .local)
    (hsw : swapsWith (.ListComp elt [⟨tg, iter, ifs, 0⟩] scope pos) (some (.Name y py)) spos.line X.env = pure true) (ok : BlkOk X.N X.env.scope scope own) (hi : WI X tg iter di) (hts : ∀ t ∈ ts, t ∈ own.map (·.2))
    (hg : ∀ (s : Shared) (H : Hp) (C : Addr) (cl : List (Str × Addr)) (fp : List Addr), WG (bk X scope s H C cl fp) tg g ts bd)
    (ht : ∀ (s : Shared) (H : Hp) (C : Addr) (cl : List (Str × Addr)) (fp : List Addr), WC (bk X scope s H C cl fp) ifs dt)
    (he : ∀ (s : Shared) (H : Hp) (C : Addr) (cl : List (Str × Addr)) (fp : List Addr), WE (bk X scope s H C cl fp) elt de) (hs : ∀ x, foldedSetIterable iter X.env x = pure x := by intro _; rfl) :
    W1 X (.Assign [.Name y py] (.ListComp elt [⟨tg, iter, ifs, 0⟩] scope pos) spos) (dAsg i (dLc di bd dt de (own.map (·.2)) k2)) := ⟨fun {s H as G M D DE} st hd tk rd pins0 sh0 I0 =>
  PS.sem (ps_setLc (te := semEb X scope elt) (tt := semTb X scope ifs) hc hN hy hyl hsw pi_sem ok (fun s H C cl fp => (hg s H C cl fp).pg) (fun s H C cl fp => ⟨fun pins sh σ H Q I h => h s _ C cl fp pins sh I⟩) (fun s H C cl fp => ⟨fun pins sh σ H Q I h => h s _ C cl fp pins sh I⟩) hs)
    (lc_read (Y := X) (Q := fun x H1 => gName i x s H1 DE.nx) rfl hi hts fk (fun {s' H' as' G1 G2 M' d v Q'} => (hg sh0 (fun _ => none) 0 [] []).rd)
      (fun st' hd' k' s H0 C cl fp => (ht s H0 C cl fp).run st' hd' takesX0 k') (fun st' hd' k' s H0 C cl fp => (he s H0 C cl fp).run st' hd' takesX0 k') st hd (takes_e tk)
      fun v H' as' d' M' n h r q => rd.nx _ H' as' _ M' n ((st.nx n h).set r) q) pins0 sh0 I0⟩
end
end
end DL

/-! DLf: defs and their calls, instances, methods. -/
namespace DL
open PySem PySem.Spec PyProof.Rows L2 Evl
open Classical

/-! ### defs -/
/-- what a def hands back of its own cells: a datum -/
def outK (n0 : Nat) (k : DK) : DK := fun d M' => match d with
  | .cell i => if i < n0 then k (.cell i) (M'.take n0) else (match fzD M' i with
    | some (x, _) => k x (M'.take n0)
    | none => False)
  | d => k d (M'.take n0)
def dFn (n slots : Nat) (body : DTS) : DSp := fun ds M k kx => ds.length = n ∧
  body ⟨fun _ M' => k .non (M'.take M.length), outK M.length k, fun _ _ => False, fun _ _ => False, fun x _ M' => kx x (M'.take M.length)⟩ (ds.map some ++ List.replicate (slots - n) none) M
/-- a promise by data -/
def lift (K : PySem.W.Frag) (n : Nat) (dn : DSp) : Sp := fun vs H Q E => vs.length = n ∧ ∃ as M ds k kx, Hold K as M H ∧ repXs K as (hide as M H) ds vs ∧ dn ds M k kx ∧ Back K as M H k Q ∧
  ∀ x cls dd H' as' M', Nx as M H as' M' H' → Hold K as' M' H' → xcIs K (hide as' M' H') x cls dd → kx x M' → E cls dd H'
section
variable {X : Cx} {K : PySem.W.Frag} {as as1 : AS} {M M1 : Ms} {H H1 : Hp} {G : Gm} {s : L2.St} {kx : DX} {k : DK} {Q : VK} {a b c e : Expr} {da db dc : DTE} {ta tb tc : DTT} {pos : Pos}
theorem xcIs_mono {x : XD} {cls : Value} {dd : Option Addr} (e : Ex H H1) (h : xcIs K H x cls dd) : xcIs K H1 x cls dd := by
  obtain ⟨h1, h2⟩ := h
  refine ⟨h1, h2.imp id ?_⟩
  rintro ⟨q0, d, vs, q1, q2, q3, q4⟩
  exact ⟨q0, d, vs, q1, e _ _ q2, repL_mono e _ _ q3, q4⟩
theorem repXs_get {ds : List D} {vs : List V} {i : Nat} {d : D} (h : repXs K as H ds vs) (e : ds[i]? = some d) : ∃ v, vs[i]? = some v ∧ repX K as H d v := by
  induction ds generalizing vs i with
  | nil => simp at e
  | cons c ds ih =>
    obtain ⟨v, r, rfl, h1, h2⟩ := h
    cases i with
    | zero =>
      simp at e
      subst e
      exact ⟨v, by simp, h1⟩
    | succ i =>
      obtain ⟨w, e1, e2⟩ := ih (i := i) h2 (by simpa using e)
      exact ⟨w, by simpa using e1, e2⟩
/-- back from deeper cells to the caller's own -/
theorem drop_nx (n : Nx as M H as1 M1 H1) (h0 : Hold K as M H) (h1 : Hold K as1 M1 H1) : Hold K as (M1.take M.length) H1 ∧ Nx as M H as (M1.take M.length) H1 ∧ Ex (hide as1 M1 H1) (hide as (M1.take M.length) H1) := by
  have e : as1.take M.length = as := by
    have e1 : as1.l.take M.length = as.l := by
      rw [← h0.len]
      exact (List.prefix_iff_eq_take.mp n.pre).symm
    cases as1
    cases as
    simp only [AS.take, AS.mk.injEq]
    exact ⟨e1, n.pv⟩
  obtain ⟨h2, ex⟩ := h1.drop M.length
  rw [e] at h2 ex
  exact ⟨h2, ⟨List.prefix_refl _, rfl, n.ex.trans ex, n.prv⟩, ex⟩
theorem out_back (h0 : Hold K as M H) (bk : Back K as M H k Q) : Back K as M H (outK M.length k) Q := fun v H' as' d' M' n hh r q => by
  obtain ⟨h2, n2, ex⟩ := drop_nx n h0 hh
  have data : plain d' = true → repX K as (hide as (M'.take M.length) H') d' v := fun p => repX_of (rep_mono ex _ _ (rep_of_plain r p))
  cases d' with
  | cell i =>
    unfold outK at q
    simp only at q
    by_cases hi : i < M.length
    · rw [if_pos hi] at q
      obtain ⟨p, e1, e2⟩ := r
      have e3 : as.l[i]? = some p := by
        have hl : i < as.l.length := by rw [h0.len]; exact hi
        have := pre_get n.pre (List.getElem?_eq_getElem hl)
        rw [e1] at this
        rw [List.getElem?_eq_getElem hl]
        exact this.symm
      exact bk v H' as (.cell i) _ n2 h2 ⟨p, e3, e2⟩ q
    · rw [if_neg hi] at q
      cases z : fzD M' i with
      | none => rw [z] at q; exact q.elim
      | some w =>
        obtain ⟨x, M2⟩ := w
        rw [z] at q
        obtain ⟨p, e1, rfl⟩ := r
        obtain ⟨n3, h3, r3⟩ := fz_ok hh z e1
        obtain ⟨h4, n4, ex4⟩ := drop_nx (n.trans n3) h0 h3
        have em : M2.take M.length = M'.take M.length := by
          have em2 : M2 = M'.set i .dead := by
            unfold fzD at z
            split at z <;> first
              | (cases z; rfl)
              | cases z
          rw [em2]
          apply List.ext_getElem?
          intro j
          rw [List.getElem?_take, List.getElem?_take]
          split
          · rename_i hj
            rw [List.getElem?_set_ne (by omega)]
          · rfl
        rw [em] at h4 n4 ex4
        exact bk _ H' as _ _ n4 h4 (repX_of (rep_mono ex4 _ _ r3)) q
  | _ => exact bk v H' as _ _ n2 h2 (data rfl) q
theorem slots_start {ds : List D} {vs : List V} {N : List Str} {n : Nat} (r : repXs K as H ds vs) (hn : ds.length = n) : Slots K as H (ds.map some ++ List.replicate (N.length - n) none) (L2.start N vs) := by
  have hl := repXs_length r
  refine ⟨by unfold L2.start; simp; omega, fun i d e => ?_⟩
  by_cases hi : i < ds.length
  · rw [List.getElem?_append_left (by simpa using hi), List.getElem?_map] at e
    cases z : ds[i]? with
    | none => rw [z] at e; cases e
    | some d' =>
      rw [z] at e
      cases e
      obtain ⟨v, e1, e2⟩ := repXs_get r z
      refine ⟨v, ?_, e2⟩
      unfold L2.start
      rw [List.getElem?_append_left (by simp; omega), List.getElem?_map, e1]
      rfl
  · rw [List.getElem?_append_right (by simpa using Nat.le_of_not_lt hi), List.getElem?_replicate] at e
    split at e <;> cases e
theorem fn_ok {P : Program} {w : World} {K : PySem.W.Frag} {mg : Str → Option Value} {base : Heap} {x qual : Str} {params : Arguments} {body : List Stmt} {scope : Scope} {dvs : List V} {kws : List (Str × V)} {f : Addr} {fd : FuncData} {N ps : List Str} {k n : Nat} {d : DTS}
    (F : FunD K x qual params body scope dvs kws f fd) (S : FnScope N ps scope) (hn : ps.length = n)
    (hb : ∀ (cdv : Value) (A : Around) (outer : List Env) (s : Shared) (H : Hp) (E : XK), Room k (A.deeper (envOfC qual scope s.heap.objs.size f cdv)) → WS (cxOf (L2.CX P w) P w K mg base N qual scope f cdv A outer s H E) body d) :
    FnOk P w K mg base (L2.CX P w) (k + 1) f fd ps (lift K n (dFn n N.length d)) := by
  refine F.ok S (fun vs H Q E h => h.1.trans hn.symm) (fun cdv A outer s H vs Q E hr h => ⟨semB _ body, pss_sem, ?_⟩)
  obtain ⟨hl, as, M, ds, kk, kx, hh, rx, ⟨hdl, q⟩, bk, bx⟩ := h
  have tk : Takes (cxOf (L2.CX P w) P w K mg base N qual scope f cdv A outer s H E) (fun cls d _ H => E cls d H) := takes_of rfl rfl rfl rfl
  refine (hb cdv A outer s H E hr).run (G := ds.map some ++ List.replicate (N.length - n) none) ⟨hh, slots_start rx hdl⟩ q ?_ ?_
  · refine tk.imp ?_
    rintro cls dd s' H' ⟨x, G', as', M', nx, st', xc, q'⟩
    obtain ⟨h2, n2, ex⟩ := drop_nx nx hh st'.hold
    exact bx x cls dd H' as _ n2 h2 (xcIs_mono ex xc) q'
  · refine ⟨fun s' H' as' G' M' nx st' q' => ?_, fun _ _ _ _ _ _ _ z => z.elim, fun _ _ _ _ _ _ _ z => z.elim, out_back hh bk⟩
    obtain ⟨h2, n2, ex⟩ := drop_nx nx hh st'.hold
    exact bk .non H' as .non _ n2 h2 (repX_non.mpr rfl) q'

/-! ### calls -/
/-- the def that the module's name x stands for: k its level, n its parameters, df what is filled up -/
structure OkF (P : Program) (w : World) (K : PySem.W.Frag) (mg : Str → Option Value) (base : Heap) (k : Nat) (x : Str) (n : Nat) (df : List D) (dn : DSp) : Prop where
  ex : ∃ f fd ps ds dvs, mg x = some (.ref f) ∧ PySem.W.keepIn K (.ref f) = true ∧ Binds K fd ps ds ∧ Vals dvs ds ∧ (∀ H, repL K H df dvs) ∧ FnOk P w K mg base (L2.CX P w) k f fd ps (lift K n dn)
theorem OkF.mono {P : Program} {w : World} {mg : Str → Option Value} {base : Heap} {j k : Nat} {x : Str} {n : Nat} {df : List D} {dn : DSp} (h : OkF P w K mg base j x n df dn) (hk : j ≤ k) : OkF P w K mg base k x n df dn := by
  obtain ⟨f, fd, ps, ds, dvs, h1, h2, h3, h4, h5, h6⟩ := h.ex
  exact ⟨⟨f, fd, ps, ds, dvs, h1, h2, h3, h4, h5, h6.mono hk⟩⟩
theorem repXs_append {ds es : List D} {vs ws : List V} (h : repXs K as H ds vs) (h2 : repXs K as H es ws) : repXs K as H (ds ++ es) (vs ++ ws) := by
  induction ds generalizing vs with
  | nil =>
    cases (show vs = [] from h)
    exact h2
  | cons d ds ih =>
    obtain ⟨v, r, rfl, h1, h3⟩ := h
    exact ⟨v, r ++ ws, rfl, h1, ih h3⟩
/-- a def runs, from its promise -/
theorem run_lift {P : Prop} {j n : Nat} {f : Addr} {fd : FuncData} {ps : List Str} {dn : DSp} {ds : List D} {us dfv : List Value} {vs dvs : List V} {df : List D} {pins : List (Addr × Obj)} {sh : Shared} (F : FnOk X.prog X.w X.K X.mg X.base (L2.CX X.prog X.w) j f fd ps (lift X.K n dn)) (hr : Room j X.A) (hb : Binds X.K fd ps dfv) (hv : Vals dvs dfv) (hdf : ∀ H, repL X.K H df dvs)
    (st : Stt X.K as G M s H) (rx : repXs X.K as (hide as M H) ds vs) (hl : (ds ++ df).length = n) (q : dn (ds ++ df) M k kx) (tk : Takes X (XWe X.K as M H G kx)) (bk : Back X.K as M H k Q) (I : Inv X pins s H sh) (r : Vals vs us) :
    wpAny (model X.prog X.w) X.A (call (.ref f) us) (EP X pins s Q) X.xe sh := by
  have r2 : Vals (vs ++ dvs) (us ++ dfv) := r.append hv
  have rx2 := repXs_append rx (repXs_of (as := as) (hdf (hide as M H)))
  have hlen : (vs ++ dvs).length = n := by rw [← repXs_length rx2]; exact hl
  have sp : lift X.K n dn (vs ++ dvs) H Q (fun cls dd H' => XWe X.K as M H G kx cls dd s H') := ⟨hlen, as, M, ds ++ df, k, kx, st.hold, rx2, q, bk, fun x cls dd H' as' M' n' h' xc q' => ⟨x, G, as', M', n', st.nx n' h', xc, rfl, q'⟩⟩
  have hl2 : (us ++ dfv).length = ps.length := by rw [← r2.length]; exact F.len _ _ _ _ sp
  refine wpAny_call (codeAny_mono (F.run X.A X.stack sh H ⟨us, []⟩ (us ++ dfv) (vs ++ dvs) Q _ hr I.env0 (hb sh us I.kIn hl2) r2 sp) fun r' s' hq => ?_)
  cases r' with
  | error e => exact passAt tk s pins H sh e s' I hq
  | ok fl =>
    cases fl with
    | ret u => exact I.after hq
    | next => exact False.elim hq
    | brk => exact False.elim hq
    | cont => exact False.elim hq
def dCall (n : Nat) (df : List D) (dn : DSp) (dt : DTA) : DTE := fun G M k kx => dt G M (fun ds M1 => (ds ++ df).length = n ∧ dn (ds ++ df) M1 k kx) kx
theorem we_call {x : Str} {p : Pos} {es : List Expr} {dt : DTA} {j n : Nat} {df : List D} {dn : DSp} (F : OkF X.prog X.w X.K X.mg X.base j x n df dn) (hr : Room j X.A) (hg : Gl X x) (ha : WA X (e :: es) dt)
    (hdb : (x == ("__debug__" : Str)) = false := by decide) (he : starEach (e :: es) X.env = (false, eval e X.env) :: starEach es X.env := by rfl) (hpl : (backTo pos (starEach es X.env)).any (·.1) = false := by rfl) :
    WE X (.Call (.Name x p) (e :: es) [] pos) (dCall n df dn dt) := ⟨fun {s H as G M k kx Q} st hd tk bk pins sh I => by
  obtain ⟨f, fd, ps, dsv, dvs, h1, h2, h3, h4, h5, h6⟩ := F.ex
  refine wpAny_Call_Name_kw (ld_glob I hg h1 ?_ hdb)
  refine PySem.W.callWith_K (h₀ := X.base) I.ok.mod.kin h2 (thn (ha.run (Q := fun vs H1 => ∃ as1 ds M1, Nx as M H as1 M1 H1 ∧ Hold X.K as1 M1 H1 ∧ repXs X.K as1 (hide as1 M1 H1) ds vs ∧ (ds ++ df).length = n ∧ dn (ds ++ df) M1 k kx) st hd tk (fun vs H' as' ds M' n' hh rx q => ⟨as', ds, M', n', hh, rx, q⟩) pos pins sh I) fun us s1 ⟨vs, H1, I1, r, as1, ds, M1, n1, hh1, rx, hl, q⟩ => ⟨I1.kIn, ?_⟩) he hpl
  exact run_lift (P := True) h6 hr h3 h4 h5 (st.nx n1 hh1) rx hl q (XW.nx n1 tk) (bk.nx n1) I1 r⟩
theorem we_call0 {x : Str} {p : Pos} {j n : Nat} {df : List D} {dn : DSp} (F : OkF X.prog X.w X.K X.mg X.base j x n df dn) (hr : Room j X.A) (hg : Gl X x) (hdb : (x == ("__debug__" : Str)) = false := by decide) :
    WE X (.Call (.Name x p) [] [] pos) (dCall n df dn dNil) := ⟨fun {s H as G M k kx Q} st hd tk bk pins sh I => by
  obtain ⟨f, fd, ps, dsv, dvs, h1, h2, h3, h4, h5, h6⟩ := F.ex
  refine wpAny_Call_Name_kw (ld_glob I hg h1 ?_ hdb)
  obtain ⟨hl, q⟩ := hd
  exact PySem.W.callWith_K0 I.kIn h2 (run_lift (P := True) (ds := []) (vs := []) (us := []) h6 hr h3 h4 h5 st rfl hl q tk bk I .nil)⟩

/-! ### instances -/
/-- the class of an instance, a datum or in the making; its attributes -/
def insD (M : Ms) : D → Option (Str × List Str × List D)
  | .ins C ns ds => some (C, ns, ds)
  | .cell i => (match M[i]? with
    | some (.mi C fs) => some (C, fs.map (·.1), fs.map (·.2))
    | _ => none)
  | _ => none
theorem ins_at {d : D} {C : Str} {ns : List Str} {ds : List D} {v : V} (hh : Hold K as M H) (h : insD M d = some (C, ns, ds)) (r : repX K as (hide as M H) d v) :
    ∃ p dx vs, v = .ref p ∧ H p = some (.ins (He.ga K C) dx (ns.zip vs)) ∧ repL K (hide as M H) ds vs ∧ ns.length = vs.length := by
  cases d with
  | ins C' ns' ds' =>
    have r : rep K (hide as M H) (.ins C' ns' ds') v := r
    rw [rep] at r
    cases h
    obtain ⟨p, dx, vs, e1, e2, e3, e4⟩ := r
    exact ⟨p, dx, vs, e1, hide_ex _ _ e2, e3, e4⟩
  | cell i =>
    obtain ⟨p, e1, e2⟩ := r
    have e : (match M[i]? with
      | some (.mi C fs) => some (C, fs.map (·.1), fs.map (·.2))
      | _ => none) = some (C, ns, ds) := h
    cases z : M[i]? with
    | none => rw [z] at e; cases e
    | some mo =>
      rw [z] at e
      cases mo with
      | mi C' fs =>
        cases e
        obtain ⟨p', ho, q1, q2, dx, vs, rfl, rl⟩ := hh.cel i _ z (fun z => nomatch z)
        rw [e1] at q1
        cases q1
        exact ⟨p, dx, vs, e2, q2, rl, by rw [← repL_length rl]; simp⟩
      | _ => cases e
  | _ => cases h
def lookD (f : Str) : List Str → List D → Option D
  | n :: ns, d :: ds => if f = n then some d else lookD f ns ds
  | _, _ => none
theorem lookD_zip {f : Str} : ∀ {ns : List Str} {ds : List D} {vs : List V}, repL K H ds vs → (∀ d, lookD f ns ds = some d → ∃ v, (ns.zip vs).lookup f = some v ∧ rep K H d v)
  | [], _, _, _, d, h => by cases h
  | n :: ns, [], _, _, d, h => by cases h
  | n :: ns, c :: ds, vs, r, d, h => by
    rw [repL] at r
    obtain ⟨v, t, rfl, r1, r2⟩ := r
    unfold lookD at h
    rw [List.zip_cons_cons, List.lookup_cons]
    by_cases z : f = n
    · rw [if_pos z] at h
      cases h
      subst z
      exact ⟨v, by simp, r1⟩
    · rw [if_neg z] at h
      have zz : (f == n) = false := by simpa using z
      rw [zz]
      exact lookD_zip r2 d h
theorem lookup_none {f : Str} {ns : List Str} {vs : List V} (h : f ∉ ns) : (ns.zip vs).lookup f = none := by
  induction ns generalizing vs with
  | nil => rfl
  | cons n ns ih =>
    cases vs with
    | nil => rfl
    | cons v vs =>
      rw [List.zip_cons_cons, List.lookup_cons]
      have zz : (f == n) = false := by
        simp
        rintro rfl
        exact h (List.mem_cons_self ..)
      rw [zz]
      exact ih fun z => h (List.mem_cons_of_mem _ z)
/-- facts of the classes that have the attribute f as their own -/
def Flds (K : PySem.W.Frag) (f : Str) : List Str → Prop
  | [] => True
  | C :: r => (Cls K (He.ga K C) ∧ NoAttr K (He.ga K C) f) ∧ Flds K f r
theorem Flds.at_ {f : Str} : ∀ {cs : List Str} {C : Str}, Flds K f cs → C ∈ cs → Cls K (He.ga K C) ∧ NoAttr K (He.ga K C) f
  | [], _, _, h => by cases h
  | c :: cs, C, ⟨h1, h2⟩, h => by
    rcases List.mem_cons.mp h with rfl | h
    · exact h1
    · exact Flds.at_ h2 h
/-- o.f -/
def dFld (cs : List Str) (f : Str) (da : DTE) : DTE := fun G M k kx => da G M (fun o M1 => match insD M1 o with
  | some (C, ns, ds) => C ∈ cs ∧ (match lookD f ns ds with
    | some d => k d M1
    | none => False)
  | none => False) kx
theorem we_fld {cs : List Str} {f : Str} (hf : Flds X.K f cs) (he : WE X e da) (hb : attributeBase e f X.env (eval e X.env) = eval e X.env := by rfl) : WE X (.Attribute e f pos) (dFld cs f da) := ⟨fun {s H as G M k kx Q} st hd tk bk =>
  PE.sem (pe_fld pe_sem hb) (he.run st hd tk fun v H' as' d' M' n hh r q => by
    cases z : insD M' d' with
    | none => rw [z] at q; exact q.elim
    | some w =>
      obtain ⟨C, ns, ds⟩ := w
      rw [z] at q
      obtain ⟨hc, q⟩ := q
      obtain ⟨p, dx, vs, e1, e2, e3, e4⟩ := ins_at hh z r
      cases y : lookD f ns ds with
      | none => rw [y] at q; exact q.elim
      | some d =>
        rw [y] at q
        obtain ⟨u, g1, g2⟩ := lookD_zip e3 d y
        obtain ⟨c1, c2⟩ := hf.at_ hc
        exact ⟨p, _, dx, _, u, e1, e2, c1, c2, g1, bk u H' as' d M' n hh (repX_of g2) q⟩)⟩
def putD (f : Str) (d : D) : List (Str × D) → List (Str × D)
  | [] => [(f, d)]
  | (g, c) :: r => if g = f then (g, d) :: r else (g, c) :: putD f d r
theorem putD_zip {f : Str} {d : D} {v : V} (rd : rep K H d v) : ∀ {fs : List (Str × D)} {vs : List V}, repL K H (fs.map (·.2)) vs → ∃ ws, putF f v ((fs.map (·.1)).zip vs) = ((putD f d fs).map (·.1)).zip ws ∧ repL K H ((putD f d fs).map (·.2)) ws
  | [], vs, r => by
    rw [List.map_nil, repL] at r
    subst r
    exact ⟨[v], rfl, repL_one rd⟩
  | (g, c) :: fs, vs, r => by
    rw [List.map_cons, repL] at r
    obtain ⟨u, t, rfl, r1, r2⟩ := r
    show ∃ ws, (if g = f then (g, v) :: (fs.map (·.1)).zip t else (g, u) :: putF f v ((fs.map (·.1)).zip t)) = _ ∧ _
    unfold putD
    by_cases z : g = f
    · rw [if_pos z, if_pos z]
      exact ⟨v :: t, rfl, repL_cons rd r2⟩
    · rw [if_neg z, if_neg z]
      obtain ⟨ws, h1, h2⟩ := putD_zip (f := f) rd r2
      exact ⟨u :: ws, by rw [h1]; rfl, repL_cons r1 h2⟩
/-- o.f = e, o an instance in the making -/
def dSetF (cs : List Str) (f : Str) (da dv : DTE) : DTS := fun D G M => dv G M (fun v M1 => da G M1 (fun o M2 => match o with
  | .cell i => (match M2[i]? with
    | some (.mi C fs) => C ∈ cs ∧ plain v = true ∧ fs.length < 1000 ∧ D.nx G (M2.set i (.mi C (putD f v fs)))
    | _ => False)
  | _ => False) (fun x M' => D.ex x G M')) (fun x M' => D.ex x G M')
theorem w1_setf {cs : List Str} {f : Str} {o : Expr} {dv : DTE} {pos' : Pos} (hf : Flds X.K f cs) (ho : WE X o da) (he : WE X e dv) (hs : swapsWith e (some (.Attribute o f pos')) pos.line X.env = pure false := by rfl) : W1 X (.Assign [.Attribute o f pos'] e pos) (dSetF cs f da dv) := ⟨fun {s H as G M D DE} stt hd tk rd =>
  PS.sem (ps_fld pe_sem pe_sem hs) (he.run stt hd (takes_e tk) fun v H1 as1 v' M1 n1 h1 r1 q1 => ho.run (stt.nx n1 h1) q1 (takes_e (XW.nx n1 tk)) fun o' H2 as2 o2 M2 n2 h2 r2 q2 => by
    cases o2 with
    | cell i =>
      simp only at q2
      split at q2
      · rename_i C fs em
        obtain ⟨hc, pl, hl, q2⟩ := q2
        obtain ⟨p, e1, rfl⟩ := r2
        obtain ⟨p', ho', y1, y2, dx, vs, rfl, rl⟩ := h2.cel i _ em (fun z => nomatch z)
        rw [e1] at y1
        cases y1
        obtain ⟨c1, c2⟩ := hf.at_ hc
        obtain ⟨ws, g1, g2⟩ := putD_zip (f := f) (rep_of_plain (repX_nx n2 r1) pl) rl
        obtain ⟨h3, n3⟩ := h2.write (mo' := .mi C (putD f v' fs)) (ho' := .ins (He.ga X.K C) dx (((putD f v' fs).map (·.1)).zip ws)) em (fun z => nomatch z) (fun z => nomatch z) e1 ⟨dx, ws, rfl, g2⟩
        have nn := (n1.trans n2).trans n3
        refine ⟨p, _, dx, _, rfl, y2, c1, c2, ?_, ?_⟩
        · rw [List.length_zip, List.length_map]
          omega
        · rw [g1]
          exact rd.nx s _ as2 G _ nn (stt.nx nn h3) q2
      · exact q2.elim
    | _ => exact q2.elim)⟩

/-! ### methods -/
/-- the method m of the class C -/
structure OkM (P : Program) (w : World) (K : PySem.W.Frag) (mg : Str → Option Value) (base : Heap) (k : Nat) (C m : Str) (n : Nat) (df : List D) (dn : DSp) : Prop where
  ex : ∃ f fd ps ds dvs, Cls K (He.ga K C) ∧ Meth K (He.ga K C) m f ∧ Binds K fd ps ds ∧ Vals dvs ds ∧ (∀ H, repL K H df dvs) ∧ FnOk P w K mg base (L2.CX P w) k f fd ps (lift K n dn)
theorem OkM.mono {P : Program} {w : World} {mg : Str → Option Value} {base : Heap} {j k : Nat} {x m : Str} {n : Nat} {df : List D} {dn : DSp} (h : OkM P w K mg base j x m n df dn) (hk : j ≤ k) : OkM P w K mg base k x m n df dn := by
  obtain ⟨f, fd, ps, ds, dvs, h1, h2, h3, h4, h5, h6⟩ := h.ex
  exact ⟨⟨f, fd, ps, ds, dvs, h1, h2, h3, h4, h5, h6.mono hk⟩⟩
/-- the classes that have the method, what each does -/
abbrev MTab := List (Str × Nat × List D × DSp)
def OkMs (P : Program) (w : World) (K : PySem.W.Frag) (mg : Str → Option Value) (base : Heap) (k : Nat) (m : Str) : MTab → Prop
  | [] => True
  | (C, n, df, dn) :: r => OkM P w K mg base k C m n df dn ∧ OkMs P w K mg base k m r
theorem OkMs.at_ {P : Program} {w : World} {mg : Str → Option Value} {base : Heap} {k : Nat} {m : Str} : ∀ {t : MTab} {C : Str} {z : Nat × List D × DSp}, OkMs P w K mg base k m t → t.lookup C = some z → OkM P w K mg base k C m z.1 z.2.1 z.2.2
  | [], _, _, _, h => by cases h
  | (c, n, df, dn) :: r, C, z, ⟨h1, h2⟩, h => by
    rw [List.lookup_cons] at h
    by_cases y : C = c
    · subst y
      simp at h
      subst h
      exact h1
    · have yy : (C == c) = false := by simpa using y
      rw [yy] at h
      exact OkMs.at_ h2 h
def dMeth (m : Str) (t : MTab) (da : DTE) (dt : DTA) : DTE := fun G M k kx => da G M (fun o M1 => match insD M1 o with
  | some (C, ns, _) => m ∉ ns ∧ (match t.lookup C with
    | some (n, df, dn) => dt G M1 (fun ds M2 => (o :: (ds ++ df)).length = n ∧ dn (o :: (ds ++ df)) M2 k kx) kx
    | none => False)
  | none => False) kx
theorem we_meth {o : Expr} {m : Str} {es : List Expr} {dt : DTA} {apos : Pos} {t : MTab} {j : Nat} {pl : Sem Bool} (ho : WE X o da) (F : OkMs X.prog X.w X.K X.mg X.base j m t) (hr : Room j X.A) (ha : WA X (e :: es) dt)
    (hst : starEach (e :: es) X.env = (false, eval e X.env) :: starEach es X.env := by rfl) (hpl : (backTo pos (starEach es X.env)).any (·.1) = false := by rfl)
    (ht : eval (.Call (.Attribute o m apos) (e :: es) [] pos) X.env = (do
      let ov ← eval o X.env
      standAt apos.atName
      let (f, first) ← holding [ov] (getMethod ov m pl)
      callWith pos f first (backTo pos (starEach (e :: es) X.env)) (backToKw pos (keywordEach [] X.env))) := by rfl) :
    WE X (.Call (.Attribute o m apos) (e :: es) [] pos) (dMeth m t da dt) := ⟨fun {s H as G M k kx Q} st hd tk bk pins sh I => by
  refine PySem.W.methodCall_KW (pl := pl) (thn (ho.run (Q := fun x H1 => ∃ as1 d1 M1, Nx as M H as1 M1 H1 ∧ Hold X.K as1 M1 H1 ∧ repX X.K as1 (hide as1 M1 H1) d1 x ∧ (match insD M1 d1 with
    | some (C, ns, _) => m ∉ ns ∧ (match t.lookup C with
      | some (n, df, dn) => dt G M1 (fun ds M2 => (d1 :: (ds ++ df)).length = n ∧ dn (d1 :: (ds ++ df)) M2 k kx) kx
      | none => False)
    | none => False)) st hd tk (fun v H' as' d' M' n h r q => ⟨as', d', M', n, h, r, q⟩) pins sh I) fun u s1 ⟨x, H1, I1, rx, as1, d1, M1, n1, h1, r1, q⟩ => ?_) ht
  cases z : insD M1 d1 with
  | none => rw [z] at q; exact q.elim
  | some w =>
    obtain ⟨C, ns, fds⟩ := w
    rw [z] at q
    obtain ⟨hm, q⟩ := q
    obtain ⟨p, dx, vs, e1, e2, e3, e4⟩ := ins_at h1 z r1
    subst e1
    obtain rfl : u = Value.ref p := rx
    cases y : t.lookup C with
    | none => rw [y] at q; exact q.elim
    | some w =>
      obtain ⟨n, df, dn⟩ := w
      rw [y] at q
      obtain ⟨f, fd, ps, dsv, dvs, g1, g2, g3, g4, g5, g6⟩ := (F.at_ y).ex
      refine getmeth_ok I1 e2 g1 g2 (lookup_none hm) ?_
      refine PySem.W.callWith_K (first := [.ref p]) (h₀ := X.base) I.ok.mod.kin g2.kp (thn (ha.run (Q := fun vs H2 => ∃ as2 ds M2, Nx as1 M1 H1 as2 M2 H2 ∧ Hold X.K as2 M2 H2 ∧ repXs X.K as2 (hide as2 M2 H2) ds vs ∧ (d1 :: (ds ++ df)).length = n ∧ dn (d1 :: (ds ++ df)) M2 k kx) (st.nx n1 h1) q (XW.nx n1 tk) (fun vs H' as' ds M' n' hh rx q => ⟨as', ds, M', n', hh, rx, q⟩) pos pins s1 I1) fun us s2 ⟨vs, H2, I2, r, as2, ds, M2, n2, h2, rx2, hl, q2⟩ => ⟨I2.kIn, ?_⟩) hst hpl
      exact run_lift (P := True) (us := .ref p :: us) (vs := .ref p :: vs) (ds := d1 :: ds) (df := df) g6 hr g3 g4 g5 (st.nx (n1.trans n2) h2) ⟨.ref p, vs, rfl, repX_nx n2 r1, rx2⟩ hl q2 (XW.nx (n1.trans n2) tk) (bk.nx (n1.trans n2)) I2 (.cons rfl r)⟩
theorem we_meth0 {o : Expr} {m : Str} {apos : Pos} {t : MTab} {j : Nat} {pl : Sem Bool} (ho : WE X o da) (F : OkMs X.prog X.w X.K X.mg X.base j m t) (hr : Room j X.A)
    (ht : eval (.Call (.Attribute o m apos) [] [] pos) X.env = (do
      let ov ← eval o X.env
      standAt apos.atName
      let (f, first) ← holding [ov] (getMethod ov m pl)
      callWith pos f first (backTo pos (starEach [] X.env)) (backToKw pos (keywordEach [] X.env))) := by rfl) :
    WE X (.Call (.Attribute o m apos) [] [] pos) (dMeth m t da dNil) := ⟨fun {s H as G M k kx Q} st hd tk bk pins sh I => by
  refine PySem.W.methodCall_KW (pl := pl) (thn (ho.run (Q := fun x H1 => ∃ as1 d1 M1, Nx as M H as1 M1 H1 ∧ Hold X.K as1 M1 H1 ∧ repX X.K as1 (hide as1 M1 H1) d1 x ∧ (match insD M1 d1 with
    | some (C, ns, _) => m ∉ ns ∧ (match t.lookup C with
      | some (n, df, dn) => dNil G M1 (fun ds M2 => (d1 :: (ds ++ df)).length = n ∧ dn (d1 :: (ds ++ df)) M2 k kx) kx
      | none => False)
    | none => False)) st hd tk (fun v H' as' d' M' n h r q => ⟨as', d', M', n, h, r, q⟩) pins sh I) fun u s1 ⟨x, H1, I1, rx, as1, d1, M1, n1, h1, r1, q⟩ => ?_) ht
  cases z : insD M1 d1 with
  | none => rw [z] at q; exact q.elim
  | some w =>
    obtain ⟨C, ns, fds⟩ := w
    rw [z] at q
    obtain ⟨hm, q⟩ := q
    obtain ⟨p, dx, vs, e1, e2, e3, e4⟩ := ins_at h1 z r1
    subst e1
    obtain rfl : u = Value.ref p := rx
    cases y : t.lookup C with
    | none => rw [y] at q; exact q.elim
    | some w =>
      obtain ⟨n, df, dn⟩ := w
      rw [y] at q
      obtain ⟨hl, q⟩ := q
      obtain ⟨f, fd, ps, dsv, dvs, g1, g2, g3, g4, g5, g6⟩ := (F.at_ y).ex
      refine getmeth_ok I1 e2 g1 g2 (lookup_none hm) ?_
      exact PySem.W.callWith_K0 (first := [.ref p]) I1.kIn g2.kp (run_lift (P := True) (us := [.ref p]) (vs := [.ref p]) (ds := [d1]) (df := df) g6 hr g3 g4 g5 (st.nx n1 h1) ⟨.ref p, [], rfl, r1, rfl⟩ hl q (XW.nx n1 tk) (bk.nx n1) I1 (.cons rfl .nil))⟩

/-! ### C(..) -/
structure OkI (P : Program) (w : World) (K : PySem.W.Frag) (mg : Str → Option Value) (base : Heap) (k : Nat) (C : Str) (n : Nat) (df : List D) (dn : DSp) : Prop where
  ex : ∃ f fd ps ds dvs, mg C = some (.ref (He.ga K C)) ∧ Mk K (He.ga K C) f ∧ Binds K fd ps ds ∧ Vals dvs ds ∧ (∀ H, repL K H df dvs) ∧ FnOk P w K mg base (L2.CX P w) k f fd ps (lift K n dn)
theorem OkI.mono {P : Program} {w : World} {mg : Str → Option Value} {base : Heap} {j k : Nat} {x : Str} {n : Nat} {df : List D} {dn : DSp} (h : OkI P w K mg base j x n df dn) (hk : j ≤ k) : OkI P w K mg base k x n df dn := by
  obtain ⟨f, fd, ps, ds, dvs, h1, h2, h3, h4, h5, h6⟩ := h.ex
  exact ⟨⟨f, fd, ps, ds, dvs, h1, h2, h3, h4, h5, h6.mono hk⟩⟩
/-- the new instance as a datum -/
def mkK (n0 : Nat) (k : DK) : DK := fun v M2 => v = .non ∧ (match M2[n0]? with
  | some (.mi C fs) => k (.ins C (fs.map (·.1)) (fs.map (·.2))) (M2.take n0)
  | _ => False)
def dMake (C : Str) (n : Nat) (df : List D) (dn : DSp) (dt : DTA) : DTE := fun G M k kx => dt G M (fun ds M1 => (D.cell M1.length :: (ds ++ df)).length = n ∧ dn (.cell M1.length :: (ds ++ df)) (M1 ++ [.mi C []]) (mkK M1.length k) (fun x M' => kx x (M'.take M1.length))) kx
theorem run_mk {j n : Nat} {C : Str} {f : Addr} {fd : FuncData} {ps : List Str} {dn : DSp} {ds : List D} {us dfv : List Value} {vs dvs : List V} {df : List D} {pins : List (Addr × Obj)} {sh : Shared} (Mm : Mk X.K (He.ga X.K C) f) (F : FnOk X.prog X.w X.K X.mg X.base (L2.CX X.prog X.w) j f fd ps (lift X.K n dn)) (hr : Room (j + 1) X.A) (hb : Binds X.K fd ps dfv) (hv : Vals dvs dfv) (hdf : ∀ H, repL X.K H df dvs)
    (st : Stt X.K as G M s H) (rx : repXs X.K as (hide as M H) ds vs) (hl : (D.cell M.length :: (ds ++ df)).length = n) (q : dn (.cell M.length :: (ds ++ df)) (M ++ [.mi C []]) (mkK M.length k) (fun x M' => kx x (M'.take M.length))) (tk : Takes X (XWe X.K as M H G kx)) (bk : Back X.K as M H k Q) (I : Inv X pins s H sh) (r : Vals vs us) :
    wpAny (model X.prog X.w) X.A (call (.ref (He.ga X.K C)) us) (EP X pins s Q) X.xe sh := by
  obtain ⟨dx, hdx⟩ : ∃ dx, dx = sh.heap.objs.size := ⟨_, rfl⟩
  have z1 : H dx = none := by rw [hdx]; exact I.hok.fresh (Nat.le_refl _)
  have z2 : H (dx + 1) = none := by rw [hdx]; exact I.hok.fresh (Nat.le_succ _)
  have ndx : dx + 1 ≠ dx := Nat.succ_ne_self _
  obtain ⟨h1, n1, _⟩ := st.hold.imm (o := .own (dx + 1)) z1
  obtain ⟨h2, n2⟩ := h1.mut (p := dx + 1) (mo := .mi C []) (ho := .ins (He.ga X.K C) dx []) (by rw [upd_ne ndx]; exact z2) (fun z => nomatch z) ⟨dx, [], rfl, repL_nil⟩
  have n12 := n1.trans n2
  have r2 : Vals (V.ref (dx + 1) :: (vs ++ dvs)) (Value.ref (dx + 1) :: (us ++ dfv)) := .cons rfl (r.append hv)
  have rx2 : repXs X.K (as.snoc (dx + 1)) (hide (as.snoc (dx + 1)) (M ++ [.mi C []]) (upd (upd H dx (.own (dx + 1))) (dx + 1) (.ins (He.ga X.K C) dx []))) (D.cell M.length :: (ds ++ df)) (V.ref (dx + 1) :: (vs ++ dvs)) :=
    ⟨_, _, rfl, ⟨dx + 1, by show (as.l ++ [dx + 1])[M.length]? = _; rw [← st.hold.len]; simp, rfl⟩, repXs_append (repXs_nx n12 rx) (repXs_of (hdf _))⟩
  have hlen : (V.ref (dx + 1) :: (vs ++ dvs)).length = n := by rw [← repXs_length rx2]; exact hl
  have sp : lift X.K n dn (V.ref (dx + 1) :: (vs ++ dvs)) (upd (upd H dx (.own (dx + 1))) (dx + 1) (.ins (He.ga X.K C) dx [])) (fun v H2 => v = .non ∧ Q (.ref (dx + 1)) H2) (fun cls dd H' => XWe X.K as M H G kx cls dd s H') := by
    refine ⟨hlen, _, _, _, _, _, h2, rx2, q, ?_, ?_⟩
    · intro v H' as' d' M' n' hh rr qq
      obtain ⟨rfl, qq⟩ := qq
      refine ⟨repX_non.mp rr, ?_⟩
      cases e : M'[M.length]? with
      | none => rw [e] at qq; exact qq.elim
      | some mo =>
        rw [e] at qq
        cases mo with
        | mi C' fs =>
          have fz : fzD M' M.length = some (.ins C' (fs.map (·.1)) (fs.map (·.2)), M'.set M.length .dead) := by
            unfold fzD
            rw [e]
          have ap : as'.l[M.length]? = some (dx + 1) := pre_get n'.pre (by show (as.l ++ [dx + 1])[M.length]? = _; rw [← st.hold.len]; simp)
          obtain ⟨n3, h3, r3⟩ := fz_ok hh fz ap
          obtain ⟨h4, n4, ex4⟩ := drop_nx ((n12.trans n').trans n3) st.hold h3
          have em : (M'.set M.length .dead).take M.length = M'.take M.length := by
            apply List.ext_getElem?
            intro j
            rw [List.getElem?_take, List.getElem?_take]
            split
            · rename_i hj
              rw [List.getElem?_set_ne (by omega)]
            · rfl
          rw [em] at h4 n4 ex4
          exact bk _ H' as _ _ n4 h4 (repX_of (rep_mono ex4 _ _ r3)) qq
        | _ => exact qq.elim
    · intro x cls dd H' as' M' n' h' xc q'
      obtain ⟨h4, n4, ex4⟩ := drop_nx (n12.trans n') st.hold h'
      exact ⟨x, G, as, _, n4, st.nx n4 h4, xcIs_mono ex4 xc, rfl, q'⟩
  have hl2 : (Value.ref (dx + 1) :: us ++ dfv).length = ps.length := by
    have e := r2.length
    rw [F.len _ _ _ _ sp] at e
    exact e.symm
  subst hdx
  have I2 := Inv.made (C := He.ga X.K C) I
  refine wpAny_call (make_map (f := f) I.kIn Mm.makes Mm.init (beq_iff_eq.mp Mm.fn) (codeAny_mono (F.run _ X.stack _ _ ⟨Value.ref (sh.heap.objs.size + 1) :: us, []⟩ (Value.ref (sh.heap.objs.size + 1) :: (us ++ dfv)) _ _ _ (hr.make (He.ga X.K C) us [])
    (I2.env0.make (He.ga X.K C) us []) (hb _ (Value.ref (sh.heap.objs.size + 1) :: us) I2.kIn hl2) r2 sp) fun r s' hq' => ?_))
  cases r with
  | error e => exact passAt tk s pins _ _ e s' I2 hq'
  | ok fl =>
    cases fl with
    | ret u =>
      obtain ⟨v, H', I3, rv, ev, q3⟩ := I2.after hq'
      subst ev
      exact ⟨rv, ⟨V.ref (sh.heap.objs.size + 1), H', I3, rfl, q3⟩⟩
    | next => exact False.elim hq'
    | brk => exact False.elim hq'
    | cont => exact False.elim hq'
theorem we_make {C : Str} {p : Pos} {es : List Expr} {dt : DTA} {j n : Nat} {df : List D} {dn : DSp} (F : OkI X.prog X.w X.K X.mg X.base j C n df dn) (hr : Room (j + 1) X.A) (hg : Gl X C) (ha : WA X (e :: es) dt)
    (hdb : (C == ("__debug__" : Str)) = false := by decide) (he : starEach (e :: es) X.env = (false, eval e X.env) :: starEach es X.env := by rfl) (hpl : (backTo pos (starEach es X.env)).any (·.1) = false := by rfl) :
    WE X (.Call (.Name C p) (e :: es) [] pos) (dMake C n df dn dt) := ⟨fun {s H as G M k kx Q} st hd tk bk pins sh I => by
  obtain ⟨f, fd, ps, dsv, dvs, h1, h2, h3, h4, h5, h6⟩ := F.ex
  refine wpAny_Call_Name_kw (ld_glob I hg h1 ?_ hdb)
  refine PySem.W.callWith_K (h₀ := X.base) I.ok.mod.kin h2.kp (thn (ha.run (Q := fun vs H1 => ∃ as1 ds M1, Nx as M H as1 M1 H1 ∧ Hold X.K as1 M1 H1 ∧ repXs X.K as1 (hide as1 M1 H1) ds vs ∧ (D.cell M1.length :: (ds ++ df)).length = n ∧ dn (.cell M1.length :: (ds ++ df)) (M1 ++ [.mi C []]) (mkK M1.length k) (fun x M' => kx x (M'.take M1.length))) st hd tk (fun vs H' as' ds M' n' hh rx q => ⟨as', ds, M', n', hh, rx, q⟩) pos pins sh I) fun us s1 ⟨vs, H1, I1, r, as1, ds, M1, n1, hh1, rx, hl, q⟩ => ⟨I1.kIn, ?_⟩) he hpl
  exact run_mk h2 h6 hr h3 h4 h5 (st.nx n1 hh1) rx hl q (XW.nx n1 tk) (bk.nx n1) I1 r⟩
theorem we_make0 {C : Str} {p : Pos} {j n : Nat} {df : List D} {dn : DSp} (F : OkI X.prog X.w X.K X.mg X.base j C n df dn) (hr : Room (j + 1) X.A) (hg : Gl X C) (hdb : (C == ("__debug__" : Str)) = false := by decide) :
    WE X (.Call (.Name C p) [] [] pos) (dMake C n df dn dNil) := ⟨fun {s H as G M k kx Q} st hd tk bk pins sh I => by
  obtain ⟨f, fd, ps, dsv, dvs, h1, h2, h3, h4, h5, h6⟩ := F.ex
  refine wpAny_Call_Name_kw (ld_glob I hg h1 ?_ hdb)
  obtain ⟨hl, q⟩ := hd
  exact PySem.W.callWith_K0 I.kIn h2.kp (run_mk (ds := []) (vs := []) (us := []) h2 h6 hr h3 h4 h5 st rfl hl q tk bk I .nil)⟩
end
end DL

/-! DLg: errors, isinstance, operators that a class of the text defines. -/
namespace DL
open PySem PySem.Spec PyProof.Rows L2 Evl
open Classical

section
variable {X : Cx} {K : PySem.W.Frag} {as as1 : AS} {M M1 : Ms} {H H1 : Hp} {G : Gm} {s : L2.St} {kx : DX} {k : DK} {Q : VK} {a b c e : Expr} {da db dc : DTE} {ta tb tc : DTT} {pos : Pos}
/-! ### raise C('..'), C without an __init__ of its own -/
structure OkE (K : PySem.W.Frag) (mg : Str → Option Value) (x : Str) : Prop where
  mg : mg x = some (.ref (He.ga K x))
  ex : PySem.W.excIn K (He.ga K x) He.veBase "ValueError.__new__" = true
  kp : PySem.W.keepIn K (.ref (He.ga K x)) = true
  sb : PySem.W.subIn K (.ref (He.ga K x)) (.type "BaseException") = some true
  ty : PySem.W.typeIn K (.ref (He.ga K x)) = some (.type "type")
def dRaise (C : Str) : DTS := fun D G M => D.ex ⟨C, [], []⟩ G M
theorem w1_raise {x m : Str} {j : Nat} {p p2 p3 : Pos} (hc : X.calm = true) (F : OkE X.K X.mg x) (hg : Gl X x) (hdb : (x == ("__debug__" : Str)) = false := by decide) : W1 X (.Raise (some (.Call (.Name x p) [.Constant (.str m) j p2] [] p3)) none pos) (dRaise x) := ⟨fun {s H as G M D DE} stt hd tk rd =>
  PS.sem (ps_raise hc tk (pmk_own PySem.F.excBase_ValueError F.ex F.mg F.kp (raises_own F.sb F.ty) hg hdb)) ⟨_, G, as, M, Nx.refl, stt, ⟨rfl, Or.inl ⟨rfl, rfl⟩⟩, hd⟩⟩

/-! ### try -/
/-- which class an except clause of the class y takes: told by the error's class -/
def Exms (K : PySem.W.Frag) (y : Str) : List (Str × Bool) → Prop
  | [] => True
  | (C, b) :: r => PySem.W.exmOne K (.ref (He.ga K C)) (.ref (He.ga K y)) = some b ∧ Exms K y r
theorem Exms.at_ {y : Str} : ∀ {t : List (Str × Bool)} {C : Str} {b : Bool}, Exms K y t → t.lookup C = some b → PySem.W.exmOne K (.ref (He.ga K C)) (.ref (He.ga K y)) = some b
  | [], _, _, _, h => by cases h
  | (c, b') :: r, C, b, ⟨h1, h2⟩, h => by
    rw [List.lookup_cons] at h
    by_cases z : C = c
    · subst z
      simp at h
      subst h
      exact h1
    · have zz : (C == c) = false := by simpa using z
      rw [zz] at h
      exact Exms.at_ h2 h
def exNo : XD → Gm → Ms → Prop := fun _ _ _ => False
/-- try: body / except y: suite -/
def dTry (t : List (Str × Bool)) (body suite : DTS) : DTS := fun D G M => body { D with ex := fun x G' M' => match t.lookup x.C with
  | some true => suite { D with ex := exNo } G' M'
  | some false => D.ex x G' M'
  | none => False } G M
/-- try: body / except y as n: suite, n in slot i -/
def dTryAs (t : List (Str × Bool)) (i : Nat) (body : DTS) (suite : Addr → Option Addr → XD → DTS) : DTS := fun D G M => body { D with ex := fun x G' M' => match t.lookup x.C with
  | some true => ∀ a dd, suite a dd x ⟨fun G2 => D.nx (G2.set i none), D.rt, fun G2 => D.bk (G2.set i none), fun G2 => D.ct (G2.set i none), exNo⟩ (G'.set i (some (.xo a dd x.C x.ns x.ds))) M'
  | some false => D.ex x G' M'
  | none => False } G M
theorem names_cls {y : Str} (hg : Gl X y) (hm : X.mg y = some (.ref (He.ga X.K y))) (hdb : (y == ("__debug__" : Str)) = false := by decide) : Names X y (.ref (He.ga X.K y)) := ⟨hg, hdb, Or.inl hm⟩
def tBody (X : Cx) (body : List Stmt) (W : WX) : TS := fun DE s H => ∀ pn xe, Takes (X.tr pn xe) W → PassesOwn (model X.prog X.w) X.A X.env xe → semB (X.tr pn xe) body DE s H
def tSuite (X : Cx) (suite : List Stmt) (a : Addr) (cls : Value) (d : Option Addr) : TS := fun DE s H => ∀ oe pn, Zc cls d oe → (∃ vs, oe.data = .fields vs) → semB (X.suite a ((a, oe) :: pn)) suite DE s H
theorem takesF {X : Cx} {W : WX} (h : ∀ c d s H, ¬ W c d s H) : Takes X W := fun u sh x => by
  obtain ⟨_, _, _, _, _, _, _, _, _, _, _, _, _, _, _, _, z⟩ := x
  exact (h _ _ _ _ z).elim
theorem w1_try {y : Str} {t : List (Str × Bool)} {body suite : List Stmt} {b₀ : Stmt} {np pos' : Pos} {db ds : DTS} (hs : X.stack = X.env :: X.outer) (hf : X.env.frame = some X.env.locals) (hy : Names X y (.ref (He.ga X.K y))) (ht : Exms X.K y t)
    (hb : ∀ pn xe, PassesOwn (model X.prog X.w) X.A X.env xe → WS (X.tr pn xe) body db) (hsu : ∀ a oe cls d pn, Zc cls d oe → (∃ vs, oe.data = .fields vs) → WS (X.suite a ((a, oe) :: pn)) (b₀ :: suite) ds) :
    W1 X (.Try body [.ExceptHandler (some (.Name y np)) none (b₀ :: suite) pos'] [] [] pos) (dTry t db ds) := ⟨fun {s H as G M D DE} stt hd tk rd =>
  PS.sem (ps_try_only (tb := tBody X body) (ts := tSuite X (b₀ :: suite)) hs hf hy tk (fun W pn xe tk' hp => ⟨fun pins sh σ H D I h => h pn xe tk' hp pins sh I⟩) (fun a oe cls d pn hz hv => ⟨fun pins sh σ H D I h => h oe pn hz hv pins sh I⟩)) fun pn xe tk' hp =>
    (hb pn xe hp).run stt hd (tk'.imp fun cls dd s' H' ⟨x, G', as', M', n, st', xc, q⟩ => by
      simp only at q
      split at q
      · rename_i e
        refine ⟨true, by rw [xc.1]; exact ht.at_ e, fun _ a _ oe pn2 hz hv => ?_, fun z => Bool.noConfusion z⟩
        refine (hsu a oe cls dd pn2 hz hv).run st' q (takesF ?_) ⟨fun s3 H3 as3 G3 M3 n3 => rd.nx s3 H3 as3 G3 M3 (n.trans n3), fun s3 H3 as3 G3 M3 n3 => rd.bk s3 H3 as3 G3 M3 (n.trans n3), fun s3 H3 as3 G3 M3 n3 => rd.ct s3 H3 as3 G3 M3 (n.trans n3), rd.rt.nx n⟩
        rintro _ _ _ _ ⟨_, _, _, _, _, _, _, z⟩
        exact z
      · rename_i e
        exact ⟨false, by rw [xc.1]; exact ht.at_ e, fun z => Bool.noConfusion z, fun _ => ⟨x, G', as', M', n, st', xc, q⟩⟩
      · exact q.elim) ⟨rd.nx, rd.bk, rd.ct, rd.rt⟩⟩
theorem w1_tryAs {y nm : Str} {i : Nat} {t : List (Str × Bool)} {body suite : List Stmt} {b₀ : Stmt} {np pos' : Pos} {db : DTS} {ds : Addr → Option Addr → XD → DTS} (hs : X.stack = X.env :: X.outer) (hf : X.env.frame = some X.env.locals) (hN : X.N.Nodup) (hi : X.N[i]? = some nm) (hln : X.env.kindOf nm = some .local)
    (hy : Names X y (.ref (He.ga X.K y))) (ht : Exms X.K y t) (hb : ∀ pn xe, PassesOwn (model X.prog X.w) X.A X.env xe → WS (X.tr pn xe) body db)
    (hsu : ∀ a oe d pn (x : XD), Zc (.ref (He.ga X.K x.C)) d oe → (∃ vs, oe.data = .fields vs) → (x.ns = [] → d = none) → WS (X.suite a ((a, oe) :: pn)) (b₀ :: suite) (ds a d x)) :
    W1 X (.Try body [.ExceptHandler (some (.Name y np)) (some nm) (b₀ :: suite) pos'] [] [] pos) (dTryAs t i db ds) := ⟨fun {s H as G M D DE} stt hd tk rd =>
  PS.sem (ps_try_as (tb := tBody X body) (ts := tSuite X (b₀ :: suite)) hs hf hN hi hln hy tk (fun W pn xe tk' hp => ⟨fun pins sh σ H D I h => h pn xe tk' hp pins sh I⟩) (fun a oe cls d pn hz hv => ⟨fun pins sh σ H D I h => h oe pn hz hv pins sh I⟩)) fun pn xe tk' hp =>
    (hb pn xe hp).run stt hd (tk'.imp fun cls dd s' H' ⟨x, G', as', M', n, st', xc, q⟩ => by
      simp only at q
      split at q
      · rename_i e
        refine ⟨true, by rw [xc.1]; exact ht.at_ e, fun _ a _ oe pn2 hz hv => ?_, fun z => Bool.noConfusion z⟩
        have hz' : Zc (.ref (He.ga X.K x.C)) dd oe := by rw [← xc.1]; exact hz
        have rx : repX X.K as' (hide as' M' H') (.xo a dd x.C x.ns x.ds) (.ref a) := repX_of (by rw [rep]; exact ⟨rfl, xc.2.imp (fun z => z.1) (fun z => z.2)⟩)
        have un : ∀ {s3 : L2.St} {H3 : Hp} {as3 : AS} {G3 : Gm} {M3 : Ms}, Stt X.K as3 G3 M3 s3 H3 → Stt X.K as3 (G3.set i none) M3 (s3.set i none) H3 := fun h => ⟨h.hold, h.slots.none⟩
        refine (hsu a oe dd pn2 x hz' hv (fun z => by
          rcases xc.2 with w | w
          · exact w.2
          · exact absurd z w.1)).run (st'.set rx) (q a dd) (takesF ?_) ⟨fun s3 H3 as3 G3 M3 n3 z q3 => rd.nx _ H3 as3 _ M3 (n.trans n3) (un z) q3, fun s3 H3 as3 G3 M3 n3 z q3 => rd.bk _ H3 as3 _ M3 (n.trans n3) (un z) q3, fun s3 H3 as3 G3 M3 n3 z q3 => rd.ct _ H3 as3 _ M3 (n.trans n3) (un z) q3, rd.rt.nx n⟩
        rintro _ _ _ _ ⟨_, _, _, _, _, _, _, z⟩
        exact z
      · rename_i e
        exact ⟨false, by rw [xc.1]; exact ht.at_ e, fun z => Bool.noConfusion z, fun _ => ⟨x, G', as', M', n, st', xc, q⟩⟩
      · exact q.elim) ⟨rd.nx, rd.bk, rd.ct, rd.rt⟩⟩

/-! ### isinstance -/
/-- what isinstance asks of an own class -/
structure OkT (K : PySem.W.Frag) (C : Str) : Prop where
  cl : Cls K (He.ga K C)
  ha : PySem.W.findIn K (.ref (He.ga K C)) "__class__" = some (some (.builtin "object.__class__"))
  hn : PySem.W.specialIn K (.builtin "object.__class__") "__get__" = some (some (.builtin "getset_descriptor.__get__"))
  ht : PySem.W.takesIn K (.builtin "object.__class__") = some true
  hm : PySem.W.mroIn K (He.ga K C) (.type "object") = some true
/-- the name of a datum's built-in type -/
def tyD (M : Ms) : D → Option String
  | .non => some "NoneType"
  | .bl _ => some "bool"
  | .int _ => some "int"
  | .str _ => some "str"
  | .lst _ => some "list"
  | .tup _ => some "tuple"
  | .cell i => (match M[i]? with
    | some (.ml _) => some "list"
    | some (.mx true _) => some "tuple"
    | some (.mx false _) => some "list"
    | _ => none)
  | _ => none
def isB (a b : String) : Option Bool := match a, b with
  | "NoneType", "int" => some false | "NoneType", "bool" => some false | "NoneType", "str" => some false | "NoneType", "list" => some false | "NoneType", "tuple" => some false
  | "bool", "int" => some true | "bool", "bool" => some true | "bool", "str" => some false | "bool", "list" => some false | "bool", "tuple" => some false
  | "int", "int" => some true | "int", "bool" => some false | "int", "str" => some false | "int", "list" => some false | "int", "tuple" => some false
  | "str", "int" => some false | "str", "bool" => some false | "str", "str" => some true | "str", "list" => some false | "str", "tuple" => some false
  | "list", "int" => some false | "list", "bool" => some false | "list", "str" => some false | "list", "list" => some true | "list", "tuple" => some false
  | "tuple", "int" => some false | "tuple", "bool" => some false | "tuple", "str" => some false | "tuple", "list" => some false | "tuple", "tuple" => some true
  | _, _ => none
theorem isB_ok {x y : String} {r : Bool} (h : isB x y = some r) : PySem.W.kitOne K (.type x) (.type y) = some r := by
  unfold isB at h
  split at h <;> first
    | (cases h; exact kit_ty (by decide +kernel))
    | cases h
/-- answers of isinstance told by tables: of built-in data against own classes False; of own instances by the classes' names -/
inductive IsT where
  | ty (n : String)
  | own (C : Str)
def tyOfD (M : Ms) (d : D) : Option IsT := match tyD M d with
  | some n => some (.ty n)
  | none => (match insD M d with
    | some (C, _, _) => some (.own C)
    | none => none)
def isTv (K : PySem.W.Frag) : IsT → Value
  | .ty n => .type n
  | .own C => .ref (He.ga K C)
end
end DL

/-! DLh: operators, iteration, length of own classes. -/
namespace DL
open PySem PySem.Spec PyProof.Rows L2 Evl
open Classical

/-- a fact of each of some classes -/
def AllC (P : Str → Prop) : List Str → Prop
  | [] => True
  | C :: r => P C ∧ AllC P r
theorem AllC.at_ {P : Str → Prop} : ∀ {cs : List Str} {C : Str}, AllC P cs → C ∈ cs → P C
  | [], _, _, h => by cases h
  | c :: cs, C, ⟨h1, h2⟩, h => by
    rcases List.mem_cons.mp h with rfl | h
    · exact h1
    · exact AllC.at_ h2 h
theorem lookup_in {β : Type} : ∀ {t : List (Str × β)} {C : Str} {z : β}, t.lookup C = some z → C ∈ t.map (·.1)
  | [], _, _, h => by cases h
  | (c, b) :: r, C, z, h => by
    rw [List.lookup_cons] at h
    by_cases y : C = c
    · subst y
      exact List.mem_cons_self ..
    · have yy : (C == c) = false := by simpa using y
      rw [yy] at h
      exact List.mem_cons_of_mem _ (lookup_in h)
abbrev Sf (K : PySem.W.Frag) : List Str → Prop := AllC fun C => PySem.W.selfFirst K (He.ga K C) = true
theorem rel_back {v : V} {u : Value} {Q : Value → Shared → Prop} {s : Shared} (r : RelV v u) (q : Q u s) : PySem.W.CmpBack Q u s := by
  unfold PySem.W.CmpBack
  cases u <;> first
    | exact q
    | (cases v <;> first
        | (obtain ⟨t, e⟩ := r; exact Value.noConfusion e)
        | exact Value.noConfusion r)

section
variable {X : Cx} {K : PySem.W.Frag} {as as1 : AS} {M M1 : Ms} {H H1 : Hp} {G : Gm} {s : L2.St} {kx : DX} {k : DK} {Q : VK} {a b c e : Expr} {da db dc : DTE} {ta tb tc : DTT} {pos : Pos}
/-- the instance at a datum, in the state -/
theorem ins_st {pins : List (Addr × Obj)} {σ : L2.St} {sh : Shared} {p C dx : Addr} {fs : List (Str × V)} (I : Inv X pins σ H sh) (e : H p = some (.ins C dx fs)) : ∃ ob od, PySem.W.InstAt sh.heap p ob C od := by
  obtain ⟨mA, J, _⟩ := ins_get I.hok e
  obtain ⟨od, J, _⟩ := J.look
  exact ⟨_, _, J⟩
def fOwn (t : MTab) : DOp := fun x y M k kx => match insD M x, insD M y with
  | some (C, _, _), some (C', _, _) => C' = C ∧ (match t.lookup C with
    | some (n, df, dn) => ([x, y] ++ df).length = n ∧ dn ([x, y] ++ df) M k kx
    | none => False)
  | _, _ => False
theorem od_own {op : Operator} {m : Str} {t : MTab} {j : Nat} (F : OkMs X.prog X.w X.K X.mg X.base j m t) (hr : Room j X.A) (hsf : Sf X.K (t.map (·.1))) (hm : PySem.dunder op.info.2 = m := by rfl) : OpD X (binaryOp op) (fOwn t) := by
  intro s H as G M x y dx dy k kx Q pins sh u v st rx ry hf tk bk I ru rv
  unfold fOwn at hf
  split at hf
  · rename_i C n1 d1 C' n2 d2 e1 e2
    obtain ⟨rfl, hf⟩ := hf
    obtain ⟨p, dp, vs, rfl, p2, p3, p4⟩ := ins_at st.hold e1 rx
    obtain ⟨q, dq, ws, rfl, q2, q3, q4⟩ := ins_at st.hold e2 ry
    obtain rfl : u = Value.ref p := ru
    obtain rfl : v = Value.ref q := rv
    cases z : t.lookup C' with
    | none => rw [z] at hf; exact hf.elim
    | some w =>
      obtain ⟨n, df, dn⟩ := w
      rw [z] at hf
      obtain ⟨hl, hf⟩ := hf
      obtain ⟨f, fd, ps, dsv, dvs, g1, g2, g3, g4, g5, g6⟩ := (F.at_ z).ex
      obtain ⟨ob, od, J⟩ := ins_st I p2
      obtain ⟨ob2, od2, J2⟩ := ins_st I q2
      obtain ⟨m0, hF⟩ := I.fr
      refine PySem.W.binop_K hF I.ok.mod.kin J J2.type (hsf.at_ (lookup_in z)) (by rw [hm]; exact g2.at_) g2.fn ?_
      refine wpAny_mono (run_lift (P := True) (us := [.ref p, .ref q]) (vs := [.ref p, .ref q]) (ds := [dx, dy]) (df := df) g6 hr g3 g4 g5 st ⟨.ref p, [.ref q], rfl, rx, .ref q, [], rfl, ry, rfl⟩ hl hf tk bk I (.cons rfl (.cons rfl .nil))) ?_ (fun _ _ z => z)
      rintro r s' ⟨v, H', I', rv', q'⟩
      exact rel_back rv' ⟨v, H', I', rv', q'⟩
  · exact hf.elim
/-- an own == of two of one class -/
theorem od_ownEq {op : CmpOp} {m : Str} {t : MTab} {j : Nat} (F : OkMs X.prog X.w X.K X.mg X.base j m t) (hr : Room j X.A) (hc : compareOp op = richCompare op := by rfl) (hm : (cmpInfo op).2.1 = m := by rfl) : OpD X (compareOp op) (fOwn t) := by
  intro s H as G M x y dx dy k kx Q pins sh u v st rx ry hf tk bk I ru rv
  unfold fOwn at hf
  split at hf
  · rename_i C n1 d1 C' n2 d2 e1 e2
    obtain ⟨rfl, hf⟩ := hf
    obtain ⟨p, dp, vs, rfl, p2, p3, p4⟩ := ins_at st.hold e1 rx
    obtain ⟨q, dq, ws, rfl, q2, q3, q4⟩ := ins_at st.hold e2 ry
    obtain rfl : u = Value.ref p := ru
    obtain rfl : v = Value.ref q := rv
    cases z : t.lookup C' with
    | none => rw [z] at hf; exact hf.elim
    | some w =>
      obtain ⟨n, df, dn⟩ := w
      rw [z] at hf
      obtain ⟨hl, hf⟩ := hf
      obtain ⟨f, fd, ps, dsv, dvs, g1, g2, g3, g4, g5, g6⟩ := (F.at_ z).ex
      obtain ⟨ob, od, J⟩ := ins_st I p2
      obtain ⟨ob2, od2, J2⟩ := ins_st I q2
      obtain ⟨m0, hF⟩ := I.fr
      rw [hc]
      refine PySem.W.cmp_K hr.units0 hF I.ok.mod.kin J J2.type (by unfold PySem.W.notFirst; simp) (by rw [hm]; exact g2.at_) g2.fn ?_
      refine wpAny_mono (run_lift (P := True) (us := [.ref p, .ref q]) (vs := [.ref p, .ref q]) (ds := [dx, dy]) (df := df) g6 hr g3 g4 g5 st ⟨.ref p, [.ref q], rfl, rx, .ref q, [], rfl, ry, rfl⟩ hl hf tk bk I (.cons rfl (.cons rfl .nil))) ?_ (fun _ _ z => z)
      rintro r s' ⟨v, H', I', rv', q'⟩
      exact rel_back rv' ⟨v, H', I', rv', q'⟩
  · exact hf.elim
def fOwn1 (t : MTab) : DUn := fun x M k kx => match insD M x with
  | some (C, _, _) => (match t.lookup C with
    | some (n, df, dn) => ([x] ++ df).length = n ∧ dn ([x] ++ df) M k kx
    | none => False)
  | none => False
def unName : UnaryOp → Str
  | .Invert => "__invert__"
  | .UAdd => "__pos__"
  | .USub => "__neg__"
  | .Not => ""
theorem ud_own {op : UnaryOp} {m : Str} {t : MTab} {j : Nat} (F : OkMs X.prog X.w X.K X.mg X.base j m t) (hr : Room j X.A) (hn : op ≠ .Not := by decide) (hm : unName op = m := by rfl) : UnD X (unaryOp op) (fOwn1 t) := by
  intro s H as G M x dx k kx Q pins sh u st rx hf tk bk I ru
  unfold fOwn1 at hf
  split at hf
  · rename_i C n1 d1 e1
    obtain ⟨p, dp, vs, rfl, p2, p3, p4⟩ := ins_at st.hold e1 rx
    obtain rfl : u = Value.ref p := ru
    cases z : t.lookup C with
    | none => rw [z] at hf; exact hf.elim
    | some w =>
      obtain ⟨n, df, dn⟩ := w
      rw [z] at hf
      obtain ⟨hl, hf⟩ := hf
      obtain ⟨f, fd, ps, dsv, dvs, g1, g2, g3, g4, g5, g6⟩ := (F.at_ z).ex
      obtain ⟨ob, od, J⟩ := ins_st I p2
      have sp : wpAny (model X.prog X.w) X.A (callSpecial? (.ref p) m []) (fun r s' => ∃ v, r = some v ∧ EP X pins s Q v s') X.xe sh :=
        PySem.W.special_fn I.kIn J g2.at_ (beq_iff_eq.mp g2.fn) (wpAny_mono (run_lift (P := True) (us := [.ref p]) (vs := [.ref p]) (ds := [dx]) (df := df) g6 hr g3 g4 g5 st ⟨.ref p, [], rfl, rx, rfl⟩ hl hf tk bk I (.cons rfl .nil)) (fun v s' h => ⟨v, rfl, h⟩) fun _ _ z => z)
      subst hm
      unfold unaryOp
      refine wpAny_holding ?_
      cases op with
      | Not => exact absurd rfl hn
      | _ =>
        refine wpAny_bind (wpAny_mono sp (fun r s' z => ?_) fun _ _ z => z)
        obtain ⟨v, rfl, z⟩ := z
        exact wpAny_pure z
  · exact hf.elim

/-! ### x in o -/
def fOwnIn (neg : Bool) (t : MTab) : DOp := fun x y M k kx => match insD M y with
  | some (C, _, _) => (match t.lookup C with
    | some (n, df, dn) => ([y, x] ++ df).length = n ∧ dn ([y, x] ++ df) M (fun r M' => match r with
      | .bl c => k (.bl (xor neg c)) M'
      | _ => False) kx
    | none => False)
  | none => False
theorem bl_back {neg : Bool} (bk : Back K as M H k Q) : Back K as M H (fun r M' => match r with
    | .bl c => k (.bl (xor neg c)) M'
    | _ => False) (fun v H' => ∃ c, v = .bl c ∧ Q (.bl (xor neg c)) H') := fun v H' as' d' M' n hh r q => by
  cases d' with
  | bl c => exact ⟨c, repX_bl.mp r, bk _ H' as' _ M' n hh (repX_bl.mpr rfl) q⟩
  | _ => exact q.elim
theorem od_ownIn {m : Str} {t : MTab} {j : Nat} (F : OkMs X.prog X.w X.K X.mg X.base j m t) (hr : Room j X.A) (hm : m = "__contains__" := by rfl) : OpD X (compareOp .In) (fOwnIn false t) := by
  intro s H as G M x y dx dy k kx Q pins sh u v st rx ry hf tk bk I ru rv
  unfold fOwnIn at hf
  split at hf
  · rename_i C n1 d1 e1
    obtain ⟨p, dp, vs, rfl, p2, p3, p4⟩ := ins_at st.hold e1 ry
    obtain rfl : v = Value.ref p := rv
    cases z : t.lookup C with
    | none => rw [z] at hf; exact hf.elim
    | some w =>
      obtain ⟨n, df, dn⟩ := w
      rw [z] at hf
      obtain ⟨hl, hf⟩ := hf
      obtain ⟨f, fd, ps, dsv, dvs, g1, g2, g3, g4, g5, g6⟩ := (F.at_ z).ex
      obtain ⟨ob, od, J⟩ := ins_st I p2
      obtain ⟨m0, hF⟩ := I.fr
      subst hm
      refine PySem.W.in_K hF I.ok.mod.kin J g2.at_ g2.fn ?_
      refine wpAny_mono (run_lift (P := True) (us := [.ref p, u]) (vs := [.ref p, x]) (ds := [dy, dx]) (df := df) g6 hr g3 g4 g5 st ⟨.ref p, [x], rfl, ry, x, [], rfl, rx, rfl⟩ hl hf tk (bl_back bk) I (.cons rfl (.cons ru .nil))) ?_ (fun _ _ z => z)
      rintro r s' ⟨v, H', I', rv', c, rfl, q'⟩
      cases rv'
      exact wpAny_truthy_bool ⟨.bl c, H', I', rfl, by simpa using q'⟩
  · exact hf.elim
theorem od_ownNotIn {m : Str} {t : MTab} {j : Nat} (F : OkMs X.prog X.w X.K X.mg X.base j m t) (hr : Room j X.A) (hm : m = "__contains__" := by rfl) : OpD X (compareOp .NotIn) (fOwnIn true t) := by
  intro s H as G M x y dx dy k kx Q pins sh u v st rx ry hf tk bk I ru rv
  unfold fOwnIn at hf
  split at hf
  · rename_i C n1 d1 e1
    obtain ⟨p, dp, vs, rfl, p2, p3, p4⟩ := ins_at st.hold e1 ry
    obtain rfl : v = Value.ref p := rv
    cases z : t.lookup C with
    | none => rw [z] at hf; exact hf.elim
    | some w =>
      obtain ⟨n, df, dn⟩ := w
      rw [z] at hf
      obtain ⟨hl, hf⟩ := hf
      obtain ⟨f, fd, ps, dsv, dvs, g1, g2, g3, g4, g5, g6⟩ := (F.at_ z).ex
      obtain ⟨ob, od, J⟩ := ins_st I p2
      obtain ⟨m0, hF⟩ := I.fr
      subst hm
      refine PySem.W.notIn_K hF I.ok.mod.kin J g2.at_ g2.fn ?_
      refine wpAny_mono (run_lift (P := True) (us := [.ref p, u]) (vs := [.ref p, x]) (ds := [dy, dx]) (df := df) g6 hr g3 g4 g5 st ⟨.ref p, [x], rfl, ry, x, [], rfl, rx, rfl⟩ hl hf tk (bl_back bk) I (.cons rfl (.cons ru .nil))) ?_ (fun _ _ z => z)
      rintro r s' ⟨v, H', I', rv', c, rfl, q'⟩
      cases rv'
      exact wpAny_truthy_bool ⟨.bl (!c), H', I', rfl, by simpa using q'⟩
  · exact hf.elim

/-! ### own __len__, __bool__ -/
theorem run_liftA {A1 : Around} {j n : Nat} {f : Addr} {fd : FuncData} {ps : List Str} {dn : DSp} {ds : List D} {us dfv : List Value} {vs dvs : List V} {df : List D} {pins : List (Addr × Obj)} {sh : Shared} (F : FnOk X.prog X.w X.K X.mg X.base (L2.CX X.prog X.w) j f fd ps (lift X.K n dn)) (sb : L2.Sub X j A1) (hb : Binds X.K fd ps dfv) (hv : Vals dvs dfv) (hdf : ∀ H, repL X.K H df dvs)
    (st : Stt X.K as G M s H) (rx : repXs X.K as (hide as M H) ds vs) (hl : (ds ++ df).length = n) (q : dn (ds ++ df) M k kx) (tk : Takes X (XWe X.K as M H G kx)) (bk : Back X.K as M H k Q) (I : Inv X pins s H sh) (r : Vals vs us) :
    wpAny (model X.prog X.w) A1 (call (.ref f) us) (EP X pins s Q) X.xe sh := by
  have r2 : Vals (vs ++ dvs) (us ++ dfv) := r.append hv
  have rx2 := repXs_append rx (repXs_of (as := as) (hdf (hide as M H)))
  have hlen : (vs ++ dvs).length = n := by rw [← repXs_length rx2]; exact hl
  have sp : lift X.K n dn (vs ++ dvs) H Q (fun cls dd H' => XWe X.K as M H G kx cls dd s H') := ⟨hlen, as, M, ds ++ df, k, kx, st.hold, rx2, q, bk, fun x cls dd H' as' M' n' h' xc q' => ⟨x, G, as', M', n', st.nx n' h', xc, rfl, q'⟩⟩
  have hl2 : (us ++ dfv).length = ps.length := by rw [← r2.length]; exact F.len _ _ _ _ sp
  have ev : Env0 X.prog X.w X.K X.mg X.base A1 X.stack sh H := by
    have t := I.env0
    exact ⟨(by rw [sb.fr]; exact t.frames), t.mod, t.bs, t.bsz, t.funs, t.frf, t.hok, t.bare⟩
  refine wpAny_call (codeAny_mono (F.run A1 X.stack sh H ⟨us, []⟩ (us ++ dfv) (vs ++ dvs) Q _ sb.room ev (hb sh us I.kIn hl2) r2 sp) fun r' s' hq => ?_)
  cases r' with
  | error e => exact passAt tk s pins H sh e s' I hq
  | ok fl =>
    cases fl with
    | ret u => exact I.after hq
    | next => exact False.elim hq
    | brk => exact False.elim hq
    | cont => exact False.elim hq

/-! ### calls of built-ins that may run own code -/
abbrev DCo := List D → Ms → DK → DX → Prop
def CallD (X : Cx) (f : Value) (c : DCo) : Prop :=
  ∀ {s : L2.St} {H : Hp} {as : AS} {G : Gm} {M : Ms} {ds : List D} {vs : List V} {k : DK} {kx : DX} {Q : VK} {pins : List (Addr × Obj)} {sh : Shared} {us : List Value}, Stt X.K as G M s H → repXs X.K as (hide as M H) ds vs → c ds M k kx →
    Takes X (XWe X.K as M H G kx) → Back X.K as M H k Q → Inv X pins s H sh → Vals vs us → wpAny (model X.prog X.w) X.A (call f us) (EP X pins s Q) X.xe sh
def coOr (c d : DCo) : DCo := fun ds M k kx => c ds M k kx ∨ d ds M k kx
def coR (f : DCl) : DCo := fun ds M k _ => f ds M k
theorem CallD.or {f : Value} {c d : DCo} (h1 : CallD X f c) (h2 : CallD X f d) : CallD X f (coOr c d) := fun st rx hc tk bk I r => by
  rcases hc with hc | hc
  · exact h1 st rx hc tk bk I r
  · exact h2 st rx hc tk bk I r
theorem CallD.of {f : Value} {r : List V → Hp → VK → Prop} {c : DCl} (hc : CallR X f r) (hr : RdC X.K r c) : CallD X f (coR c) := fun st rx h tk bk I rv => hc _ _ _ _ _ _ _ I rv (hr st.hold rx h bk)
def dCo (c : DCo) (dt : DTA) : DTE := fun G M k kx => dt G M (fun ds M1 => c ds M1 k kx) kx
theorem we_coB {x : Str} {p : Pos} {es : List Expr} {dt : DTA} {id : String} {c : DCo} (hc : CallD X (.builtin id) c) (hg : Gl X x) (hm : X.mg x = none) (hv : bootBuiltins x = some (.builtin id)) (ha : WA X (e :: es) dt)
    (hn : x ≠ "__name__" := by decide) (hdb : (x == ("__debug__" : Str)) = false := by decide)
    (he : starEach (e :: es) X.env = (false, eval e X.env) :: starEach es X.env := by rfl) (hpl : (backTo pos (starEach es X.env)).any (·.1) = false := by rfl) : WE X (.Call (.Name x p) (e :: es) [] pos) (dCo c dt) := ⟨fun {s H as G M k kx Q} st hd tk bk pins sh I => by
  refine wpAny_Call_Name_kw (ld_blt I hg hm hv ?_ hn hdb)
  exact PyProof.Rows.callWith_builtin1 (thn (ha.run (Q := fun vs H1 => ∃ as1 ds M1, Nx as M H as1 M1 H1 ∧ Hold X.K as1 M1 H1 ∧ repXs X.K as1 (hide as1 M1 H1) ds vs ∧ c ds M1 k kx) st hd tk (fun vs H' as' ds M' n' hh rx q => ⟨as', ds, M', n', hh, rx, q⟩) pos pins sh I) fun us s1 ⟨vs, H1, I1, r, as1, ds, M1, n1, hh1, rx, q⟩ => hc (st.nx n1 hh1) rx q (XW.nx n1 tk) (bk.nx n1) I1 r) he hpl⟩
theorem we_coT {x : Str} {p : Pos} {es : List Expr} {dt : DTA} {T : String} {c : DCo} (hc : CallD X (.type T) c) (hg : Gl X x) (hm : X.mg x = none) (hv : bootBuiltins x = some (.type T)) (ha : WA X (e :: es) dt)
    (hn : x ≠ "__name__" := by decide) (hdb : (x == ("__debug__" : Str)) = false := by decide)
    (he : starEach (e :: es) X.env = (false, eval e X.env) :: starEach es X.env := by rfl) (hpl : (backTo pos (starEach es X.env)).any (·.1) = false := by rfl) : WE X (.Call (.Name x p) (e :: es) [] pos) (dCo c dt) := ⟨fun {s H as G M k kx Q} st hd tk bk pins sh I => by
  refine wpAny_Call_Name_kw (ld_blt I hg hm hv ?_ hn hdb)
  exact PyProof.Rows.callWith_type1 (thn (ha.run (Q := fun vs H1 => ∃ as1 ds M1, Nx as M H as1 M1 H1 ∧ Hold X.K as1 M1 H1 ∧ repXs X.K as1 (hide as1 M1 H1) ds vs ∧ c ds M1 k kx) st hd tk (fun vs H' as' ds M' n' hh rx q => ⟨as', ds, M', n', hh, rx, q⟩) pos pins sh I) fun us s1 ⟨vs, H1, I1, r, as1, ds, M1, n1, hh1, rx, q⟩ => hc (st.nx n1 hh1) rx q (XW.nx n1 tk) (bk.nx n1) I1 r) he hpl⟩
/-- len(o) by an own __len__ -/
def cLenO (t : MTab) : DCo := fun ds M k kx => match ds with
  | [x] => (match insD M x with
    | some (C, _, _) => (match t.lookup C with
      | some (n, df, dn) => ([x] ++ df).length = n ∧ dn ([x] ++ df) M (fun r M2 => match r with
        | .int i => (0 ≤ i ∧ i < 2 ^ 63) ∧ k (.int i) M2
        | _ => False) kx
      | none => False)
    | none => False)
  | _ => False
theorem len_back (bk : Back K as M H k Q) : Back K as M H (fun r M2 => match r with
    | .int i => (0 ≤ i ∧ i < 2 ^ 63) ∧ k (.int i) M2
    | _ => False) (fun v H' => ∃ i, v = .int i ∧ (0 ≤ i ∧ i < 2 ^ 63) ∧ Q (.int i) H') := fun v H' as' d' M' n hh r q => by
  cases d' with
  | int i => exact ⟨i, repX_int.mp r, q.1, bk _ H' as' _ M' n hh (repX_int.mpr rfl) q.2⟩
  | _ => exact q.elim
theorem cd_lenO {t : MTab} {j : Nat} (F : OkMs X.prog X.w X.K X.mg X.base j "__len__" t) (hr : Room (j + 1) X.A) : CallD X (.builtin "len") (cLenO t) := by
  intro s H as G M ds vs k kx Q pins sh us st rx hf tk bk I ru
  unfold cLenO at hf
  split at hf
  · rename_i x
    obtain ⟨xv, rfl, rx1⟩ := rXs1 rx
    obtain ⟨u, rfl, ru1⟩ := ru.one
    split at hf
    · rename_i C n1 d1 e1
      obtain ⟨p, dp, vs, rfl, p2, p3, p4⟩ := ins_at st.hold e1 rx1
      obtain rfl : u = Value.ref p := ru1
      cases z : t.lookup C with
      | none => rw [z] at hf; exact hf.elim
      | some w =>
        obtain ⟨n, df, dn⟩ := w
        rw [z] at hf
        obtain ⟨hl, hf⟩ := hf
        obtain ⟨f, fd, ps, dsv, dvs, g1, g2, g3, g4, g5, g6⟩ := (F.at_ z).ex
        obtain ⟨ob, od, J⟩ := ins_st I p2
        obtain ⟨m0, hF⟩ := I.fr
        refine PySem.W.len_K hF I.ok.mod.kin J g2.at_ g2.fn ?_
        refine wpAny_mono (run_liftA (us := [.ref p]) (vs := [.ref p]) (ds := [x]) (df := df) g6 (L2.Sub.in1 ⟨hr, rfl⟩) g3 g4 g5 st ⟨.ref p, [], rfl, rx1, rfl⟩ hl hf tk (len_back bk) I (.cons rfl .nil)) ?_ (fun _ _ z => z)
        rintro r s' ⟨v, H', I', rv', i, rfl, hb, q'⟩
        obtain ⟨t0, rfl⟩ := rv'
        exact ⟨hb, .int i, H', I'.kept (t' := s'.toks + 1) (fun b o e => e), ⟨_, rfl⟩, q'⟩
    · exact hf.elim
  · exact hf.elim
end
end DL

/-! DLi: walks of own instances whose __iter__ hands out the iterator of a tuple they hold. -/
namespace DL
open PySem PySem.Spec PyProof.Rows L2 Evl
open Classical

/-- a promise that may speak of the size of the heap at the call -/
structure FnOkZ (P : Program) (w : World) (K : PySem.W.Frag) (mg : Str → Option Value) (base : Heap) (k : Nat) (f : Addr) (fd : FuncData) (ps : List Str) (sp : Nat → Sp) : Prop where
  len : ∀ z vs H Q E, sp z vs H Q E → vs.length = ps.length
  run : ∀ (A : Around) (ou : List Env) (sh : Shared) (H : Hp) (ag : Args) (us : List Value) (vs : List V) (Q : VK) (E : XK), Room k A → Env0 P w K mg base A ou sh H → BindsTo sh fd ag (ps.zip us) → Vals vs us → sp sh.heap.objs.size vs H Q E →
    codeAny (model P w) A (.call (.ref f) ag) (CR (L2.CX P w) ou P w H sh Q E) sh
theorem fn_ofZ {P : Program} {w : World} {K : PySem.W.Frag} {mg : Str → Option Value} {base : Heap} {x qual : Str} {params : Arguments} {body : List Stmt} {scope : Scope} {dvs : List V} {kws : List (Str × V)} {f : Addr} {fd : FuncData} {N ps : List Str} {k : Nat} {sp : Nat → Sp}
    (F : FunD K x qual params body scope dvs kws f fd) (S : FnScope N ps scope) (len : ∀ z vs H Q E, sp z vs H Q E → vs.length = ps.length)
    (hb : ∀ (cdv : Value) (A : Around) (ou : List Env) (sh : Shared) (H : Hp) (vs : List V) (Q : VK) (E : XK), Room k (A.deeper (envOfC qual scope sh.heap.objs.size f cdv)) → sp sh.heap.objs.size vs H Q E →
      ∃ t, PSs (cxOf (L2.CX P w) P w K mg base N qual scope f cdv A ou sh H E) body t ∧ t { nx := fun _ H' => Q .non H', rt := Q } (start N vs) H) : FnOkZ P w K mg base (k + 1) f fd ps sp := by
  obtain ⟨oc, od, dV, kV, doc, pm, an, cdv, ct, osl, rfl, lk, hcd, _, _⟩ := F.ex
  refine ⟨len, fun A ou sh H ag us vs Q E room ev bd rl hsp => ?_⟩
  have lim : sh.heap.NoLimit := ev.mod.nolimit.keeps fun b u z => (ev.bs b u z).1
  have KX : K.In sh.heap := ev.mod.kin.keeps fun b u z => (ev.bs b u z).1
  have kd : ∀ y ∈ ps.zip us, scope.names.lookup y.1 = some .local ∨ (scope.names.lookup y.1 = some .cell ∧ ((cellsFrom (sh.heap.objs.size + 1) scope.names []).lookup y.1).isSome = true) := by
    rintro ⟨nm, vl⟩ hy
    rcases S.par nm (List.of_mem_zip hy).1 with z | z
    · exact .inl z
    · exact .inr ⟨z, PySem.W.cellsFrom_some _ _ _ (.inl z)⟩
  refine codeAny_call_function room.depth (KX _ _ lk) rfl S.co S.gen rfl (PySem.W.codeRec_of KX hcd) (bd _ _ _ _ ?_)
  refine wpAny_newFunctionEnv_cells S.kind kd fun env henv s1 ic => ?_
  subst henv
  refine ⟨lim.keeps ic.toInCall.keep, codeAny_func ?_⟩
  obtain ⟨t, ht, ready⟩ := hb cdv A ou sh H vs Q E (room.deeper _) hsp
  have I := inv_start (CX := L2.CX P w) (E := E) S room.hd ev (len _ _ _ _ _ hsp) rl ic
  refine wpAny_mono (ht.run [] s1 (start N vs) H _ I ready) (fun fl s' got => ?_) fun e s' got => got
  cases fl with
  | ret u =>
    obtain ⟨v, σ', H', J, rv, q⟩ := got
    exact ⟨v, H', J.os, J.bare, J.base, J.hok, rv, q⟩
  | next =>
    obtain ⟨σ', H', J, q⟩ := got
    exact ⟨V.non, H', J.os, J.bare, J.base, J.hok, rfl, q⟩
  | brk =>
    obtain ⟨_, _, _, q⟩ := got
    exact q.elim
  | cont =>
    obtain ⟨_, _, _, q⟩ := got
    exact q.elim

abbrev tiO (l : Addr) (i : Nat) : Obj := { cls := .type "tuple_iterator", data := .fields #[.ref l, .int i 0] }
def ItT (l it : Addr) : HO := .ext fun h => h.get? it = some (tiO l 0)
/-- the spec of __iter__: return iter(self.f), f a tuple -/
def spIt (K : PySem.W.Frag) (C : Addr) (f : Str) : Nat → Sp := fun z vs H Q _ => ∃ a dx fs t zs, vs = [.ref a] ∧ H a = some (.ins C dx fs) ∧ fs.lookup f = some (.ref t) ∧ SqT K H t zs ∧ ∀ it, H it = none → z ≤ it → Q (.ref it) (upd H it (ItT t it))
/-- the spec of __len__: return len(self.f) -/
def spLn (K : PySem.W.Frag) (C : Addr) (f : Str) : Sp := fun vs H Q _ => ∃ a dx fs t zs, vs = [.ref a] ∧ H a = some (.ins C dx fs) ∧ fs.lookup f = some (.ref t) ∧ SqT K H t zs ∧ Q (.int (zs.length : Int)) H
/-- the class C is walked by its field f -/
structure OkIt (P : Program) (w : World) (K : PySem.W.Frag) (mg : Str → Option Value) (base : Heap) (j : Nat) (C f : Str) : Prop where
  it : ∃ m fd ps, Meth K (He.ga K C) "__iter__" m ∧ Binds K fd ps [] ∧ FnOkZ P w K mg base j m fd ps (spIt K (He.ga K C) f)
  ln : ∃ m fd ps, Meth K (He.ga K C) "__len__" m ∧ Binds K fd ps [] ∧ FnOk P w K mg base (L2.CX P w) j m fd ps (spLn K (He.ga K C) f)
def OkIts (P : Program) (w : World) (K : PySem.W.Frag) (mg : Str → Option Value) (base : Heap) (j : Nat) : List (Str × Str) → Prop
  | [] => True
  | (C, f) :: r => OkIt P w K mg base j C f ∧ OkIts P w K mg base j r
theorem OkIts.at_ {P : Program} {w : World} {K : PySem.W.Frag} {mg : Str → Option Value} {base : Heap} {j : Nat} : ∀ {t : List (Str × Str)} {C f : Str}, OkIts P w K mg base j t → t.lookup C = some f → OkIt P w K mg base j C f
  | [], _, _, _, h => by cases h
  | (c, g) :: r, C, f, ⟨h1, h2⟩, h => by
    rw [List.lookup_cons] at h
    by_cases y : C = c
    · subst y
      simp at h
      subst h
      exact h1
    · have yy : (C == c) = false := by simpa using y
      rw [yy] at h
      exact OkIts.at_ h2 h

section
variable {X : Cx} {K : PySem.W.Frag} {as as1 : AS} {M M1 : Ms} {H H1 : Hp} {G : Gm} {s : L2.St} {kx : DX} {k : DK} {Q : VK} {e : Expr} {da : DTE} {pos : Pos} {A1 : Around} {sh : Shared} {pins : List (Addr × Obj)}
theorem itT_ok {P : Program} {w : World} {h : Heap} {l it : Addr} (e : h.get? it = some (tiO l 0)) : ObjOk P w H h it (ItT l it) := ⟨e, ⟨_, e⟩, fun h1 h2 q k => k _ q⟩
theorem call_iterT : CallR X (.builtin "iter") (fun xs H Q => ∃ t zs, xs = [.ref t] ∧ SqT X.K H t zs ∧ ∀ it, H it = none → X.s_0.heap.objs.size ≤ it → Q (.ref it) (upd H it (ItT t it))) := by
  intro pins s σ H xs us Q I r h
  obtain ⟨l, zs, rfl, hq, q⟩ := h
  obtain ⟨u, rfl, ru⟩ := r.one
  cases ru
  obtain ⟨its, rv, pl, hz⟩ := I.tuple hq
  refine Calls.call_function_entry (by decide +kernel) (by decide +kernel) PySem.W.kdk_entry_iter (PySem.W.kdk_args_iter _) ?_
  unfold Builtin.«iter»
  refine wpAny_bind (m := someArgs "iter" 1 2 _) (wpAny_of_eq (a := [Value.ref l]) (by first | rfl | kernel_rfl!) ?_)
  show wpAny _ _ (pyIter (.ref l) >>= _) _ _ _
  refine wpAny_bind (iter_tuple pl ?_)
  refine wpAny_pure ⟨_, rfl, ?_⟩
  exact ⟨.ref s.heap.objs.size, _, I.laid (t' := s.toks) (fun b u e => Heap.get?_push_of_some _ e) (Nat.le_refl _) (itT_ok (Heap.get?_push_size _ rfl)), rfl, q _ (I.hok.fresh (Nat.le_refl _)) I.sz⟩

/-- pyIter of such an instance -/
theorem own_it {EE : Value → Shared → Prop} {j : Nat} {C f : Str} {a dx t : Addr} {fs : List (Str × V)} {zs : List V} {Q : Value → Shared → Prop} (F : OkIt X.prog X.w X.K X.mg X.base j C f) (sb : L2.Sub X j A1) (I : Inv X pins s H sh) (ha : H a = some (.ins (He.ga X.K C) dx fs)) (hf : fs.lookup f = some (.ref t)) (hq : SqT X.K H t zs)
    (h : ∀ it s', Inv X pins s H s' → FpOk X pins H it → s'.heap.IsTupleIter it t 0 → Q (.ref it) s') : wpAny (model X.prog X.w) A1 (pyIter (.ref a)) Q EE sh := by
  obtain ⟨m, fd, ps, g1, g2, g3⟩ := F.it
  obtain ⟨ob, od, J⟩ := ins_st I ha
  obtain ⟨m0, hF⟩ := I.fr
  refine PySem.W.owit_iter hF I.ok.mod.kin J g1.at_ g1.fn ?_
  have ev : Env0 X.prog X.w X.K X.mg X.base A1 X.stack sh H := by
    have t := I.env0
    exact ⟨(by rw [sb.fr]; exact t.frames), t.mod, t.bs, t.bsz, t.funs, t.frf, t.hok, t.bare⟩
  have sp : spIt X.K (He.ga X.K C) f sh.heap.objs.size [.ref a] H (fun v H' => ∃ it, v = .ref it ∧ H it = none ∧ sh.heap.objs.size ≤ it ∧ H' = upd H it (ItT t it)) (fun _ _ _ => False) := ⟨a, dx, fs, t, zs, rfl, ha, hf, hq, fun it hi hz => ⟨it, rfl, hi, hz, rfl⟩⟩
  have hl := g3.len _ _ _ _ _ sp
  refine wpAny_call (codeAny_mono (g3.run A1 X.stack sh H ⟨[.ref a], []⟩ [.ref a] [.ref a] _ _ sb.room ev (by
    have z := g2 sh [.ref a] I.kIn (by simpa using hl)
    simpa using z) (.cons rfl .nil) sp) fun r s' hr => ?_)
  cases r with
  | error e =>
    obtain ⟨_, _, _, _, _, _, _, _, _, _, _, _, z⟩ := hr
    exact z.elim
  | ok fl =>
    cases fl with
    | next => exact False.elim hr
    | brk => exact False.elim hr
    | cont => exact False.elim hr
    | ret u =>
      obtain ⟨v, H', I', rv, it, rfl, hn, hz, eH⟩ := I.after hr
      cases rv
      subst eH
      have ei : upd H it (ItT t it) it = some (ItT t it) := upd_same
      have ho : s'.heap.get? it = some (tiO t 0) := (I'.hok it _ ei).1
      have I2 := ItX.inv_drop I' (a := it) (by rw [ei]; rfl)
      have fp := ItX.inv_fp I' ei (Nat.le_trans I.sz hz)
      rw [ItX.dropH_upd hn] at I2 fp
      have st : s'.heap.IsTupleIter it t 0 := ⟨_, ho, rfl, rfl⟩
      unfold PySem.W.OwitIt
      refine wpAny_specialOf (T := "tuple_iterator") ⟨_, ho, rfl⟩ slot_tupleiter_next.lookup ?_
      exact h it s' I2 fp st

/-! ### what is walked, told by data -/
def itD (fs : List (Str × Str)) (M : Ms) : D → Option (List D × (Ms → Prop))
  | .lst ds => some (ds, fun _ => True)
  | .tup ds => some (ds, fun _ => True)
  | .cell i => (match M[i]? with
    | some (.ml ds) => some (ds, fun M2 => M2[i]? = some (.ml ds))
    | _ => none)
  | .ins C ns ds => (match fs.lookup C with
    | some f => (match lookD f ns ds with
      | some (.tup xs) => some (xs, fun _ => True)
      | _ => none)
    | none => none)
  | _ => none
theorem iter_any {fs : List (Str × Str)} {tg : Expr} {d : D} {v : V} {u : Value} {xs : List D} {gd : Ms → Prop} {R : It → Hp → Prop} {j : Nat} (F : OkIts X.prog X.w X.K X.mg X.base j fs) (hr : Room j X.A) (hh : Hold X.K as M H) (I : Inv X pins s H sh) (r : repX X.K as (hide as M H) d v) (rv : RelV v u) (e : itD fs M d = some (xs, gd))
    (k : ∀ J, Wk X.K as M H J xs gd → R J H) : wpAny (model X.prog X.w) X.A (pyIter u) (PIE X pins s tg R) X.xe sh := by
  have one : ∀ {p : Addr} {vs : List V}, SqL X.K H p vs → u = .ref p → Wk X.K as M H (Itl X.K p) xs gd → wpAny (model X.prog X.w) X.A (pyIter u) (PIE X pins s tg R) X.xe sh := by
    intro p vs hq eu hk
    subst eu
    obtain ⟨its, rl, pl, hz⟩ := I.list hq
    refine wpAny_pyIter_list pl.isList ⟨sh.heap.objs.size, [sh.heap.objs.size], _, _, H, rfl, I.kept (t' := sh.toks) (fun _ _ z => Heap.get?_push_of_some _ z), turn_list p _, ⟨_, Heap.get?_push_size _ rfl, rfl, rfl⟩, fun b hb => ?_, k _ hk⟩
    rw [List.mem_singleton.mp hb]
    exact I.fpOk (Nat.le_refl _) (I.hok.fresh (Nat.le_refl _))
  cases d with
  | lst ds =>
    cases e
    have r : rep X.K (hide as M H) (.lst xs) v := r
    rw [rep] at r
    obtain ⟨p, vs, rfl, e2, e3⟩ := r
    exact one (hide_l e2) rv (Wk.list e3 e2)
  | tup ds =>
    cases e
    have r : rep X.K (hide as M H) (.tup xs) v := r
    rw [rep] at r
    obtain ⟨p, vs, rfl, e2, e3⟩ := r
    obtain rfl : u = Value.ref p := rv
    obtain ⟨its, rl, pl, hz⟩ := I.tuple (hide_t e2)
    refine wpAny_pyIter_tuple (show sh.heap.IsTuple p its.toArray from pl) ⟨sh.heap.objs.size, [sh.heap.objs.size], _, _, H, rfl, I.kept (t' := sh.toks) (fun _ _ z => Heap.get?_push_of_some _ z), turn_tuple p _, ⟨_, Heap.get?_push_size _ rfl, rfl, rfl⟩, fun b hb => ?_, k _ (Wk.tup e3 e2)⟩
    rw [List.mem_singleton.mp hb]
    exact I.fpOk (Nat.le_refl _) (I.hok.fresh (Nat.le_refl _))
  | cell i =>
    obtain ⟨p, e1, rfl⟩ := r
    unfold itD at e
    simp only at e
    split at e
    · rename_i ds em
      cases e
      obtain ⟨p', ho, z1, z2, vs, rfl, rl⟩ := hh.cel i _ em (fun z => nomatch z)
      rw [e1] at z1
      cases z1
      exact one (SqL.of z2) rv (Wk.cell e1)
    · cases e
  | ins C ns ds =>
    unfold itD at e
    simp only at e
    split at e
    · rename_i f ef
      split at e
      · rename_i ys el
        cases e
        have r : rep X.K (hide as M H) (.ins C ns ds) v := r
        rw [rep] at r
        obtain ⟨a, dx, vs, rfl, e2, e3, e4⟩ := r
        obtain rfl : u = Value.ref a := rv
        obtain ⟨w', g1, g2⟩ := lookD_zip e3 _ el
        rw [rep] at g2
        obtain ⟨t, zs, rfl, q1, q2⟩ := g2
        refine own_it (F.at_ ef) ⟨hr, rfl⟩ I (hide_ex _ _ e2) g1 (hide_t q1) fun it s' I' fp st => ?_
        refine ⟨it, [it], _, _, H, rfl, I', turn_tuple t _, st, fun b hb => ?_, k _ (Wk.tup q2 q1)⟩
        rw [List.mem_singleton.mp hb]
        exact fp
      · cases e
    · cases e
  | _ => cases e
def iAny (fs : List (Str × Str)) (da : DTE) : DTI := fun G M k kx => da G M (fun d M' => match itD fs M' d with
  | some (xs, gd) => k xs gd M'
  | none => False) kx
theorem wi_any {fs : List (Str × Str)} {tg : Expr} {j : Nat} (F : OkIts X.prog X.w X.K X.mg X.base j fs) (hr : Room j X.A) (h : WE X e da) : WI X tg e (iAny fs da) := ⟨fun {s H as G M k kx R} stt hd tk bk pins sh I => by
  refine thn (h.run (Q := fun v H' => ∃ as' d' M' xs gd, Nx as M H as' M' H' ∧ Hold X.K as' M' H' ∧ repX X.K as' (hide as' M' H') d' v ∧ itD fs M' d' = some (xs, gd) ∧ k xs gd M') stt hd tk (fun v H' as' d' M' n hh r q => by
    simp only at q
    split at q
    · rename_i xs gd ei
      exact ⟨as', d', M', xs, gd, n, hh, r, ei, q⟩
    · exact q.elim) pins sh I) fun u s1 ⟨v, H1, I1, rv, as1, d1, M1, xs, gd, n1, h1, r1, ei, q⟩ => ?_
  exact iter_any F hr h1 I1 r1 rv ei fun J hw => bk J H1 as1 M1 xs gd n1 h1 hw q⟩

/-! ### list(o) -/
/-- the loop that fills the list at q from the iterator it over the tuple at t -/
theorem fill_loop {t it q : Addr} {zs : List V} {Rs : Result → Shared → Prop} (hcalm : A1.handled = none) (hq2 : SqT X.K H t zs) (hz : zs.length ≤ big) (hn : H q = none)
    (hdone : ∀ sh, Inv X pins s (upd H q (.lst zs)) sh → Rs (.ok (.ret .none)) sh) :
    ∀ (m i : Nat) (sh : Shared), zs.length - i = m → i ≤ zs.length → Inv X pins s (upd H q (.lst (zs.take i))) sh → FpOk X pins (upd H q (.lst (zs.take i))) it → sh.heap.IsTupleIter it t i → codeAny (model X.prog X.w) A1 (.builtin "list.extend.loop" ⟨[.ref q, .ref it, .none], []⟩) Rs sh := by
  intro m
  induction m with
  | zero =>
    intro i sh hm hi I fp st
    have ei : i = zs.length := by omega
    subst ei
    have hq3 : SqT X.K (upd H q (.lst (zs.take zs.length))) t zs := ex_t (Ex.new hn) hq2
    obtain ⟨its, rl, pl, hz3⟩ := I.tuple hq3
    obtain ⟨f0, f1, f2, f3, f4, f5⟩ := fp
    refine codeAny_builtin PySem.F.entry_extend_loop ?_
    rw [Around.under_plainId PySem.F.plain_extend_loop _]
    show wpAny _ A1.in1 (pyNext (.ref it) >>= _) _ _ sh
    refine wpAny_bind (wpAny_pyNext_tuple_end hcalm st (show sh.heap.IsTuple t its.toArray from pl) (by have := rl.length; simp; omega) fun h' eb => ?_)
    refine wpAny_pure (hdone _ ?_)
    rw [List.take_length] at I
    exact I.turned (t' := sh.toks) (fun b o hb e => eb b o hb e) (by rw [List.take_length] at f0; exact f0) f1 f3 f4 f5
  | succ m ih =>
    intro i sh hm hi I fp st
    have hq3 : SqT X.K (upd H q (.lst (zs.take i))) t zs := ex_t (Ex.new hn) hq2
    obtain ⟨its, rl, pl, hz3⟩ := I.tuple hq3
    obtain ⟨f0, f1, f2, f3, f4, f5⟩ := fp
    have hlt : i < zs.length := by omega
    obtain ⟨u, hu, ru⟩ := rl.get (List.getElem?_eq_getElem hlt)
    refine codeAny_builtin PySem.F.entry_extend_loop ?_
    rw [Around.under_plainId PySem.F.plain_extend_loop _]
    show wpAny _ A1.in1 (pyNext (.ref it) >>= _) _ _ sh
    refine wpAny_bind (wpAny_pyNext_tuple_item st (show sh.heap.IsTuple t its.toArray from pl) (x := u) (by simpa using hu) fun h' st' sb => ?_)
    have I1 : Inv X pins s (upd H q (.lst (zs.take i))) { sh with heap := h' } := I.turned (t' := sh.toks) (fun b o hb e => (sb.2 b hb).trans e) f0 f1 f3 f4 f5
    show wpAny _ A1.in1 (updateSeq q (·.push u) >>= _) _ _ _
    have eq : upd H q (.lst (zs.take i)) q = some (.lst (zs.take i)) := upd_same
    have nq : it ≠ q := fun z => by rw [z, eq] at f0; cases f0
    obtain ⟨z, its2, kk, r2, hl, e⟩ := I1.lstM eq
    have hl2 : (zs.take i).length = i := by rw [List.length_take]; omega
    have hb : big ≤ sizeLine := big_line (Nat.le_refl _)
    refine wpAny_bind (wpAny_updateSeq e rfl (wpAny_pure ⟨plainId_quiet PySem.F.plain_extend_loop _, ?_⟩) (by rw [List.size_toArray]; omega) (by show (its2.toArray.push u).size ≤ sizeLine + 1; rw [Array.size_push, List.size_toArray]; omega))
    have et : zs.take i ++ [zs[i]] = zs.take (i + 1) := by rw [List.take_succ_eq_append_getElem hlt]
    have I2 := I1.lset (f := (·.push u)) (its' := its2 ++ [u]) (ys := zs.take (i + 1)) (t' := sh.toks) eq e (by simp) (by rw [← et]; exact r2.append (.cons ru .nil)) (by rw [List.length_take]; omega)
    rw [upd_upd] at I2
    refine ih (i + 1) _ (by omega) (by omega) I2 ⟨?_, f1, f2, f3, f4, f5⟩ ?_
    · rw [upd_ne nq] at f0 ⊢
      exact f0
    · obtain ⟨o, ho, hc, hd⟩ := st'
      exact ⟨o, (Heap.get?_update_other _ _ (Ne.symm nq)).trans ho, hc, hd⟩

theorem len_own {EE : Value → Shared → Prop} {j : Nat} {C f : Str} {a dx t : Addr} {fs : List (Str × V)} {zs : List V} {Q : Value → Shared → Prop} (F : OkIt X.prog X.w X.K X.mg X.base j C f) (sb : L2.Sub X j A1.in1) (I : Inv X pins s H sh) (ha : H a = some (.ins (He.ga X.K C) dx fs)) (hf : fs.lookup f = some (.ref t)) (hq : SqT X.K H t zs)
    (hn : zs.length ≤ big) (h : ∀ sh' i, Inv X pins s H sh' → Q (.int (zs.length : Int) i) sh') : wpAny (model X.prog X.w) A1 (call (.builtin "len") [.ref a]) Q EE sh := by
  obtain ⟨m, fd, ps, g1, g2, g3⟩ := F.ln
  obtain ⟨ob, od, J⟩ := ins_st I ha
  obtain ⟨m0, hF⟩ := I.fr
  refine PySem.W.len_K hF I.ok.mod.kin J g1.at_ g1.fn ?_
  have ev : Env0 X.prog X.w X.K X.mg X.base A1.in1 X.stack sh H := by
    have t := I.env0
    exact ⟨(by rw [sb.fr]; exact t.frames), t.mod, t.bs, t.bsz, t.funs, t.frf, t.hok, t.bare⟩
  have sp : spLn X.K (He.ga X.K C) f [.ref a] H (fun v H' => v = .int (zs.length : Int) ∧ H' = H) (fun _ _ _ => False) := ⟨a, dx, fs, t, zs, rfl, ha, hf, hq, rfl, rfl⟩
  have hl := g3.len _ _ _ _ sp
  refine wpAny_call (codeAny_mono (g3.run A1.in1 X.stack sh H ⟨[.ref a], []⟩ [.ref a] [.ref a] _ _ sb.room ev (by
    have z := g2 sh [.ref a] I.kIn (by simpa using hl)
    simpa using z) (.cons rfl .nil) sp) fun r s' hr => ?_)
  cases r with
  | error e =>
    obtain ⟨_, _, _, _, _, _, _, _, _, _, _, _, z⟩ := hr
    exact z.elim
  | ok fl =>
    cases fl with
    | next => exact False.elim hr
    | brk => exact False.elim hr
    | cont => exact False.elim hr
    | ret u =>
      obtain ⟨v, H', I', rv, rfl, eH⟩ := I.after hr
      subst eH
      obtain ⟨t0, rfl⟩ := rv
      exact ⟨⟨by omega, by unfold big at hn; omega⟩, h _ _ (I'.kept (t' := s'.toks + 1) fun b o e => e)⟩
/-- the list is asked its length ahead of the walk -/
theorem hint_own {EE : Value → Shared → Prop} {j : Nat} {C f : Str} {a dx t : Addr} {fs : List (Str × V)} {zs : List V} {Q : Bool → Shared → Prop} (F : OkIt X.prog X.w X.K X.mg X.base j C f) (sb : L2.Sub X j A1.in1) (I : Inv X pins s H sh) (ha : H a = some (.ins (He.ga X.K C) dx fs)) (hf : fs.lookup f = some (.ref t)) (hq : SqT X.K H t zs)
    (hn : zs.length ≤ big) (h : ∀ sh' b, Inv X pins s H sh' → Q b sh') : wpAny (model X.prog X.w) A1 (Builtin.List.listLengthHint (.ref a)) Q EE sh := by
  obtain ⟨m, fd, ps, g1, g2, g3⟩ := F.ln
  obtain ⟨ob, od, J⟩ := ins_st I ha
  unfold Builtin.List.listLengthHint
  refine wpAny_bind (wpAny_bind (J.type.here ((PySem.W.looks_findIn I.kIn g1.at_).here ?_)))
  refine PySem.W.KFB.if_not rfl ?_
  show wpAny _ _ (if true = true then _ else _) _ _ _
  rw [if_pos rfl]
  refine wpAny_bind (wpAny_rule ?_)
  refine wpAny_bind (wpAny_attempt (len_own F sb I ha hf hq hn fun sh' i I' => ?_))
  show wpAny _ _ (asInt? (.int (zs.length : Int) i) >>= _) _ _ _
  refine wpAny_bind (wpAny_of_eq (a := some (zs.length : Int)) (by rfl) ?_)
  show wpAny _ _ (if Builtin.List.listTooLong ((zs.length : Int)).toNat = true then _ else _) _ _ _
  rw [Int.toNat_natCast, notLongL (big_line hn), if_neg (by simp)]
  exact wpAny_pure (h _ _ I')
theorem extend_own {EE : Value → Shared → Prop} {j : Nat} {C f : Str} {a dx t q : Addr} {fs : List (Str × V)} {zs : List V} {Rs : Result → Shared → Prop} (F : OkIt X.prog X.w X.K X.mg X.base j C f) (sb : L2.Sub X (j + 1) A1.in1) (hcalm : A1.handled = none) (I : Inv X pins s (upd H q (.lst [])) sh) (hn0 : H q = none) (ha : H a = some (.ins (He.ga X.K C) dx fs)) (hf : fs.lookup f = some (.ref t)) (hq : SqT X.K H t zs)
    (hn : zs.length ≤ big) (hdone : ∀ sh, Inv X pins s (upd H q (.lst zs)) sh → Rs (.ok (.ret .none)) sh) :
    wpAny (model X.prog X.w) A1.in1 (Builtin.List.listExtendWith (.ref q) (.ref a) .none)
      (fun fin s' => match fin with | .done f => Rs (.ok f) s' | .again c' => c'.quiet = true ∧ codeAny (model X.prog X.w) A1 c' Rs s') EE sh := by
  have hne : q ≠ a := fun z => by rw [z, ha] at hn0; cases hn0
  have ha1 : upd H q (.lst []) a = some (.ins (He.ga X.K C) dx fs) := by rw [upd_ne (Ne.symm hne)]; exact ha
  have hq1 : SqT X.K (upd H q (.lst [])) t zs := ex_t (Ex.new hn0) hq
  obtain ⟨ob, od, J⟩ := ins_st I ha1
  unfold Builtin.List.listExtendWith
  refine wpAny_bind (J.type.here ?_)
  have h1 : Builtin.List.listSameRef (.ref q) (.ref a) = false := by simp [Builtin.List.listSameRef, hne]
  simp only [h1, (rfl : (Value.ref (He.ga X.K C) == Value.type "list") = false), (rfl : (Value.ref (He.ga X.K C) == Value.type "tuple") = false), Bool.or_false, Bool.false_eq_true, if_false]
  refine wpAny_bind (own_it F (sb.mono (Nat.le_succ _)) I ha1 hf hq1 fun it s' I' fp st => ?_)
  have eit := st
  obtain ⟨oi, ho, hc, hd⟩ := eit
  have pp : ∀ p ∈ X.pn ++ ((it, oi) :: pins), s'.heap.get? p.1 = some p.2 ∧ upd H q (.lst []) p.1 = none ∧ p.1 ≠ X.env.locals ∧ p.1 ∉ X.fs ∧ ∀ v, p.2.data ≠ .cell v := by
    intro p hp
    rcases List.mem_append.mp hp with z | z
    · exact I'.pin p (List.mem_append.mpr (.inl z))
    · rcases List.mem_cons.mp z with rfl | z
      · exact ⟨ho, fp.1, fp.2.1, fp.2.2.1, fun v z => by rw [hd] at z; cases z⟩
      · exact I'.pin p (List.mem_append.mpr (.inr z))
  have Ip : Inv X ((it, oi) :: pins) s (upd H q (.lst [])) s' := { I' with pin := pp }
  refine wpAny_bind (wpAny_holding (hint_own F sb.in1 Ip ha1 hf hq1 hn fun s2 b I2 => ?_))
  have e2 : s2.heap.get? it = some oi := (I2.pin (it, oi) (List.mem_append.mpr (.inr (List.mem_cons_self ..)))).1
  have pp2 : ∀ p ∈ X.pn ++ pins, p ∈ X.pn ++ ((it, oi) :: pins) := by
    intro p hp
    rcases List.mem_append.mp hp with z | z
    · exact List.mem_append.mpr (.inl z)
    · exact List.mem_append.mpr (.inr (List.mem_cons_of_mem _ z))
  have I3 : Inv X pins s (upd H q (.lst [])) s2 := { I2 with pin := fun p hp => I2.pin p (pp2 p hp) }
  have st2 : s2.heap.IsTupleIter it t 0 := ⟨oi, e2, hc, hd⟩
  have eq : upd H q (.lst []) q = some (.lst []) := upd_same
  have nq : it ≠ q := fun z => by
    have f0 := fp.1
    rw [z, eq] at f0
    cases f0
  obtain ⟨z, its, kk, r3, hl3, e3⟩ := I3.lstM eq
  cases r3
  refine wpAny_ite_split (fun _ => ?_) (fun _ => wpAny_pure ⟨plainId_quiet PySem.F.plain_extend_loop _, fill_loop hcalm hq hn hn0 hdone zs.length 0 s2 (by omega) (Nat.zero_le _) I3 fp st2⟩)
  refine wpAny_bind (wpAny_rule ?_)
  refine wpAny_bind ?_
  show wpAny _ _ (updateSeq q (·.push .none) >>= fun _ => updateSeq q (·.pop)) _ _ _
  refine wpAny_bind (wpAny_updateSeq e3 rfl ?_)
  have J2 := I3.lset (f := (·.push Value.none)) (its' := [Value.none]) (ys := [.non]) (t' := s2.toks) eq e3 (by simp) (.cons rfl .nil) (by rw [List.length_singleton, sizeLine_eq]; decide)
  obtain ⟨z4, its4, k4, r4, hl4, e4⟩ := J2.lstM upd_same
  obtain ⟨u4, rfl, ru4⟩ := r4.one
  refine wpAny_updateSeq e4 rfl ?_ (by show 1 ≤ sizeLine; rw [sizeLine_eq]; decide) (by show 0 ≤ sizeLine + 1; exact Nat.zero_le _)
  have J3 := J2.lset (f := (·.pop)) (its := [u4]) (its' := []) (ys := []) (t' := s2.toks) upd_same e4 (by rfl) .nil (Nat.zero_le _)
  rw [upd_upd, upd_upd] at J3
  refine wpAny_pure ⟨plainId_quiet PySem.F.plain_extend_loop _, fill_loop hcalm hq hn hn0 hdone zs.length 0 _ (by omega) (Nat.zero_le _) J3 fp ?_⟩
  exact ⟨oi, (Heap.get?_update_other _ _ (Ne.symm nq)).trans ((Heap.get?_update_other _ _ (Ne.symm nq)).trans e2), hc, hd⟩
theorem call_listO {j : Nat} {C f : Str} (F : OkIt X.prog X.w X.K X.mg X.base j C f) (hr : Room (j + 3) X.A) : CallR X (.type "list") (fun xs H Q => ∃ a dx fs t zs, xs = [.ref a] ∧ H a = some (.ins (He.ga X.K C) dx fs) ∧ fs.lookup f = some (.ref t) ∧ SqT X.K H t zs ∧ zs.length ≤ big ∧ ∀ q, H q = none → Q (.ref q) (upd H q (.lst zs))) := by
  intro pins s σ H xs us Q I rv h
  obtain ⟨a, dx, fs, t, zs, rfl, ha, hf, hq, hn, q⟩ := h
  obtain ⟨u, rfl, ru⟩ := rv.one
  cases ru
  refine callType_codes (Q₁ := fun ob s1 => ob = .ref s.heap.objs.size ∧ s1 = { s with heap := s.heap.push { cls := .type "list", data := .seq #[] } }) PySem.F.called_list (PySem.F.typeCall_list_1 _) PySem.F.entry_list_init
    (code_list_new _ ⟨rfl, rfl⟩) fun ob s1 got => ?_
  obtain ⟨rfl, rfl⟩ := got
  have hS : (s.heap.push { cls := .type "list", data := .seq #[] }).get? s.heap.objs.size = some { cls := .type "list", data := .seq #[] } := Heap.get?_push_size _ rfl
  refine ⟨⟨_, hS, rfl⟩, PySem.F.args_list_init_2 _ _, ?_⟩
  have fr : H s.heap.objs.size = none := I.hok.fresh (Nat.le_refl _)
  have I1 : Inv X pins σ (upd H s.heap.objs.size (.lst [])) { s with heap := s.heap.push { cls := .type "list", data := .seq #[] } } := I.lnew (its := []) (t' := s.toks) .nil (Nat.zero_le _)
  show wpAny _ _ (do let old ← Builtin.List.listItems (.ref s.heap.objs.size); Builtin.List.listUpdate (.ref s.heap.objs.size) (fun _ => #[]); letGo old.toList.reverse; Builtin.List.listExtendWith (.ref s.heap.objs.size) (.ref a) .none) _ _ _
  refine wpAny_bind ?_
  unfold Builtin.List.listItems
  refine wpAny_bind (wpAny_seqItems hS rfl (wpAny_pure ?_))
  show wpAny _ _ (updateSeq s.heap.objs.size (fun _ => #[]) >>= fun _ => letGo (#[] : Array Value).toList.reverse >>= fun _ => Builtin.List.listExtendWith (.ref s.heap.objs.size) (.ref a) .none) _ _ _
  refine wpAny_bind (wpAny_updateSeq hS rfl ?_)
  have I2 := I1.lset (f := fun _ => #[]) (its := []) (its' := []) (ys := []) (t' := s.toks) upd_same hS rfl .nil (Nat.zero_le _)
  rw [upd_upd] at I2
  refine wpAny_bind (wpAny_letGo ?_)
  exact extend_own (A1 := X.A.in1) (Rs := wants (fun r s₂ => r = .none ∧ EP X pins σ Q (.ref s.heap.objs.size) s₂) X.xe) F (L2.Sub.in1 (L2.Sub.in1 ⟨hr, rfl⟩)) hr.hd I2 fr ha hf hq hn (fun sh' I' => ⟨rfl, .ref s.heap.objs.size, _, I', rfl, q _ fr⟩)

def cListO (fs : List (Str × Str)) (k2 : List D → Ms → DK → Prop) : DCo := fun ds M k _ => match ds with
  | [.ins C ns xs] => (match fs.lookup C with
    | some f => (match lookD f ns xs with
      | some (.tup ys) => ys.length ≤ big ∧ k2 ys M k
      | _ => False)
    | none => False)
  | _ => False
theorem cd_listO {fs : List (Str × Str)} {k2 : List D → Ms → DK → Prop} {j : Nat} (hk : ToL X.K k2) (F : OkIts X.prog X.w X.K X.mg X.base j fs) (hr : Room (j + 3) X.A) : CallD X (.type "list") (cListO fs k2) := by
  intro s H as G M ds vs k kx Q pins sh us st rx hf tk bk I ru
  unfold cListO at hf
  split at hf
  · rename_i C ns xs
    obtain ⟨v, rfl, rx1⟩ := rXs1 rx
    split at hf
    · rename_i f ef
      split at hf
      · rename_i ys el
        have r : rep X.K (hide as M H) (.ins C ns xs) v := rx1
        rw [rep] at r
        obtain ⟨a, dx, vs, rfl, e2, e3, e4⟩ := r
        obtain ⟨w', g1, g2⟩ := lookD_zip e3 _ el
        rw [rep] at g2
        obtain ⟨t, zs, rfl, q1, q2⟩ := g2
        refine call_listO (F.at_ ef) hr pins sh s H [.ref a] us Q I ru ⟨a, _, _, t, zs, rfl, hide_ex _ _ e2, g1, hide_t q1, ?_, hk st.hold q2 hf.2 bk⟩
        rw [← repL_length q2]
        exact hf.1
      · exact hf.elim
    · exact hf.elim
  · exact hf.elim
end

/-! ### the two defs -/
section
variable {P : Program} {w : World} {K : PySem.W.Frag} {mg : Str → Option Value} {base : Heap} {x qual : Str} {params : Arguments} {scope : Scope} {dvs : List V} {kws : List (Str × V)} {fa : Addr} {fd : FuncData} {k : Nat} {C self f : Str} {N : List Str} {p1 p2 p3 p4 p5 : Pos}
theorem it_fn (F : FunD K x qual params [.Return (some (.Call (.Name "iter" p1) [.Attribute (.Name self p2) f p3] [] p4)) p5] scope dvs kws fa fd) (S : FnScope N [self] scope) (hN : N[0]? = some self) (hv : Vis scope self) (c : Cls K (He.ga K C)) (na : NoAttr K (He.ga K C) f) (hm : mg "iter" = none)
    (hg : ∀ (n : Nat) (cdv : Value), (envOfC qual scope n fa cdv).kindOf "iter" = some .globalImplicit) (hb : ∀ (n : Nat) (cdv : Value), attributeBase (.Name self p2) f (envOfC qual scope n fa cdv) (eval (.Name self p2) (envOfC qual scope n fa cdv)) = eval (.Name self p2) (envOfC qual scope n fa cdv) := by intros; rfl)
    (hst : ∀ (n : Nat) (cdv : Value), starEach [.Attribute (.Name self p2) f p3] (envOfC qual scope n fa cdv) = [(false, eval (.Attribute (.Name self p2) f p3) (envOfC qual scope n fa cdv))] := by intros; rfl)
    (hd : (self == ("__debug__" : Str)) = false := by decide) (hcd : (self == ("__classdict__" : Str)) = false := by decide) : FnOkZ P w K mg base (k + 1) fa fd [self] (spIt K (He.ga K C) f) := by
  refine fn_ofZ F S (fun z vs H Q E h => ?_) (fun cdv A ou sh H vs Q E hr h => ?_)
  · obtain ⟨a, _, _, _, _, rfl, _⟩ := h
    rfl
  · obtain ⟨a, dx, fs, t, zs, rfl, h1, h2, h3, h4⟩ := h
    refine ⟨_, pss_one (ps_ret (pe_callB (X := cxOf (L2.CX P w) P w K mg base N qual scope fa cdv A ou sh H E) (es := []) call_iterT (hg _ _) hm (by first | rfl | decide +kernel) (pa_cons (pe_fld (pe_var (i := 0) hN hv hd hcd) (hb _ _)) pa_nil (hst _ _)) (by decide) (by decide) (hst _ _))), ?_⟩
    refine ⟨.ref a, ?_, a, _, dx, fs, .ref t, rfl, h1, c, na, h2, t, zs, rfl, h3, h4⟩
    unfold L2.start
    rfl
theorem ln_fn (F : FunD K x qual params [.Return (some (.Call (.Name "len" p1) [.Attribute (.Name self p2) f p3] [] p4)) p5] scope dvs kws fa fd) (S : FnScope N [self] scope) (hN : N[0]? = some self) (hv : Vis scope self) (c : Cls K (He.ga K C)) (na : NoAttr K (He.ga K C) f) (hm : mg "len" = none)
    (hg : ∀ (n : Nat) (cdv : Value), (envOfC qual scope n fa cdv).kindOf "len" = some .globalImplicit) (hb : ∀ (n : Nat) (cdv : Value), attributeBase (.Name self p2) f (envOfC qual scope n fa cdv) (eval (.Name self p2) (envOfC qual scope n fa cdv)) = eval (.Name self p2) (envOfC qual scope n fa cdv) := by intros; rfl)
    (hst : ∀ (n : Nat) (cdv : Value), starEach [.Attribute (.Name self p2) f p3] (envOfC qual scope n fa cdv) = [(false, eval (.Attribute (.Name self p2) f p3) (envOfC qual scope n fa cdv))] := by intros; rfl)
    (hd : (self == ("__debug__" : Str)) = false := by decide) (hcd : (self == ("__classdict__" : Str)) = false := by decide) : FnOk P w K mg base (L2.CX P w) (k + 1) fa fd [self] (spLn K (He.ga K C) f) := by
  refine F.ok S (fun vs H Q E h => ?_) (fun cdv A ou sh H vs Q E hr h => ?_)
  · obtain ⟨a, _, _, _, _, rfl, _⟩ := h
    rfl
  · obtain ⟨a, dx, fs, t, zs, rfl, h1, h2, h3, h4⟩ := h
    refine ⟨_, pss_one (ps_ret (pe_callB (X := cxOf (L2.CX P w) P w K mg base N qual scope fa cdv A ou sh H E) (es := []) call_len_seq (hg _ _) hm (by first | rfl | decide +kernel) (pa_cons (pe_fld (pe_var (i := 0) hN hv hd hcd) (hb _ _)) pa_nil (hst _ _)) (by decide) (by decide) (hst _ _))), ?_⟩
    refine ⟨.ref a, ?_, a, _, dx, fs, .ref t, rfl, h1, c, na, h2, t, zs, rfl, .inr h3, h4⟩
    unfold L2.start
    rfl
end
end DL

/-! DLj: defs that hand out a cell of their own, lists joined and repeated, isinstance. -/
namespace DL
open PySem PySem.Spec PyProof.Rows L2 Evl
open Classical

section
variable {X : Cx} {K : PySem.W.Frag} {as as1 : AS} {M M1 : Ms} {H H1 : Hp} {G : Gm} {s : L2.St} {kx : DX} {k : DK} {Q : VK} {a b c e : Expr} {da db dc : DTE} {ta tb tc : DTT} {pos : Pos}
/-- the first n cells and the cell i behind them -/
theorem Hold.keep1 (h : Hold K as M H) {n i : Nat} {mo : MO} {p : Addr} (hi : ¬ i < n) (hn : n ≤ M.length) (hm : M[i]? = some mo) (hd : mo ≠ .dead) (nx : noX mo) (hp : as.l[i]? = some p) :
    Hold K ((as.take n).snoc p) (M.take n ++ [mo]) H ∧ Ex (hide as M H) (hide ((as.take n).snoc p) (M.take n ++ [mo]) H) := by
  have hl : ((as.take n).l).length = n := by
    show (as.l.take n).length = n
    rw [List.length_take, h.len]
    omega
  have hlM : (M.take n).length = n := by
    rw [List.length_take]
    omega
  have lv : ∀ b, live ((as.take n).snoc p) (M.take n ++ [mo]) b → live as M b := by
    rintro b (⟨j, m, e1, e2, e3⟩ | z)
    · have e3 : ((as.take n).l ++ [p])[j]? = some b := e3
      by_cases hj : j < n
      · rw [List.getElem?_append_left (by rw [hlM]; exact hj), List.getElem?_take, if_pos hj] at e1
        rw [List.getElem?_append_left (by rw [hl]; exact hj)] at e3
        have e3 : (as.l.take n)[j]? = some b := e3
        rw [List.getElem?_take, if_pos hj] at e3
        exact Or.inl ⟨j, m, e1, e2, e3⟩
      · rw [List.getElem?_append_right (by rw [hl]; omega), hl] at e3
        have z : j - n = 0 := by
          rcases Nat.eq_zero_or_pos (j - n) with z | z
          · exact z
          · rw [List.getElem?_eq_none (by simpa using Nat.succ_le_of_lt z)] at e3
            cases e3
        rw [z] at e3
        have : p = b := by simpa using e3
        subst this
        exact Or.inl ⟨i, mo, hm, hd, hp⟩
    · exact Or.inr z
  have ee : Ex (hide as M H) (hide ((as.take n).snoc p) (M.take n ++ [mo]) H) := fun b o hb => by
    obtain ⟨nl, q⟩ := hide_some hb
    rw [hide_out fun z => nl (lv b z)]
    exact q
  refine ⟨⟨?_, ?_, fun j m hj hdm => ?_, fun a ha => ?_, fun a ha => ⟨(h.pt a ha).1, fun z => ?_⟩⟩, ee⟩
  · show ((as.take n).l ++ [p]).length = _
    simp [hl, hlM]
  · exact h.nd.keep h.len hn hi hm hd hp
  · by_cases hjn : j < n
    · rw [List.getElem?_append_left (by rw [hlM]; exact hjn), List.getElem?_take, if_pos hjn] at hj
      obtain ⟨a, o, h1, h2, h3⟩ := h.cel j m hj hdm
      refine ⟨a, o, ?_, h2, mrep_mono ⟨[p], rfl⟩ ee (mrep_take (Nat.le_of_lt hjn) h3)⟩
      show ((as.take n).l ++ [p])[j]? = _
      rw [List.getElem?_append_left (by rw [hl]; exact hjn)]
      show (as.l.take n)[j]? = _
      rw [List.getElem?_take, if_pos hjn]
      exact h1
    · rw [List.getElem?_append_right (by rw [hlM]; omega), hlM] at hj
      have z : j - n = 0 := by
        rcases Nat.eq_zero_or_pos (j - n) with z | z
        · exact z
        · rw [List.getElem?_eq_none (by simpa using Nat.succ_le_of_lt z)] at hj
          cases hj
      rw [z] at hj
      have : mo = m := by simpa using hj
      subst this
      obtain ⟨a, o, h1, h2, h3⟩ := h.cel i mo hm hd
      rw [hp] at h1
      cases h1
      refine ⟨p, o, ?_, h2, mrep_any nx (mrep_mono (List.prefix_refl _) ee h3)⟩
      show ((as.take n).l ++ [p])[j]? = _
      rw [List.getElem?_append_right (by rw [hl]; omega), hl, z]
      rfl
  · have ha : a ∈ (as.take n).l ++ [p] := ha
    rcases List.mem_append.mp ha with ha | ha
    · exact h.tr a (List.mem_of_mem_take ha)
    · rw [List.mem_singleton.mp ha]
      exact h.tr p (List.mem_of_getElem? hp)
  · have z : a ∈ (as.take n).l ++ [p] := z
    rcases List.mem_append.mp z with z | z
    · exact (h.pt a ha).2 (List.mem_of_mem_take z)
    · rw [List.mem_singleton.mp z] at ha
      exact (h.pt p ha).2 (List.mem_of_getElem? hp)
/-- what a def hands back that makes a cell for its caller -/
def outC (n0 : Nat) (k : DK) : DK := fun d M' => match d with
  | .cell i => if i < n0 then k (.cell i) (M'.take n0) else (match M'[i]? with
    | some (.mx _ _) => False
    | some mo => mo ≠ .dead ∧ k (.cell n0) (M'.take n0 ++ [mo])
    | none => False)
  | d => k d (M'.take n0)
theorem outC_back (h0 : Hold K as M H) (bk : Back K as M H k Q) : Back K as M H (outC M.length k) Q := fun v H' as' d' M' n hh r q => by
  cases d' with
  | cell i =>
    unfold outC at q
    simp only at q
    by_cases hi : i < M.length
    · exact out_back h0 bk v H' as' (.cell i) M' n hh r (by unfold outK; simp only; rw [if_pos hi] at q ⊢; exact q)
    · rw [if_neg hi] at q
      obtain ⟨p, e1, rfl⟩ := r
      split at q
      · exact q.elim
      · rename_i mo nmx em
        obtain ⟨hd, q⟩ := q
        have nx : noX mo := by
          cases mo with
          | mx tp ds => exact (nmx tp ds rfl).elim
          | _ => trivial
        have hn : M.length ≤ M'.length := by
          have := (List.getElem?_eq_some_iff.mp em).1
          omega
        obtain ⟨h2, ex⟩ := hh.keep1 hi hn em hd nx e1
        have ea : as'.take M.length = as := by
          have e1 : as'.l.take M.length = as.l := by
            rw [← h0.len]
            exact (List.prefix_iff_eq_take.mp n.pre).symm
          cases as'
          cases as
          simp only [AS.take, AS.mk.injEq]
          exact ⟨e1, n.pv⟩
        rw [ea] at h2 ex
        refine bk _ H' (as.snoc p) (.cell M.length) _ ⟨⟨[p], rfl⟩, rfl, n.ex.trans ex, n.prv⟩ h2 ⟨p, ?_, rfl⟩ q
        show (as.l ++ [p])[M.length]? = _
        rw [← h0.len]
        simp
      · exact q.elim
  | _ => exact out_back h0 bk v H' as' _ M' n hh r q
def dFnC (n slots : Nat) (body : DTS) : DSp := fun ds M k kx => ds.length = n ∧
  body ⟨fun _ M' => k .non (M'.take M.length), outC M.length k, fun _ _ => False, fun _ _ => False, fun x _ M' => kx x (M'.take M.length)⟩ (ds.map some ++ List.replicate (slots - n) none) M
theorem fnC_ok {P : Program} {w : World} {K : PySem.W.Frag} {mg : Str → Option Value} {base : Heap} {x qual : Str} {params : Arguments} {body : List Stmt} {scope : Scope} {dvs : List V} {kws : List (Str × V)} {f : Addr} {fd : FuncData} {N ps : List Str} {k n : Nat} {d : DTS}
    (F : FunD K x qual params body scope dvs kws f fd) (S : FnScope N ps scope) (hn : ps.length = n)
    (hb : ∀ (cdv : Value) (A : Around) (outer : List Env) (s : Shared) (H : Hp) (E : XK), Room k (A.deeper (envOfC qual scope s.heap.objs.size f cdv)) → WS (cxOf (L2.CX P w) P w K mg base N qual scope f cdv A outer s H E) body d) :
    FnOk P w K mg base (L2.CX P w) (k + 1) f fd ps (lift K n (dFnC n N.length d)) := by
  refine F.ok S (fun vs H Q E h => h.1.trans hn.symm) (fun cdv A outer s H vs Q E hr h => ⟨semB _ body, pss_sem, ?_⟩)
  obtain ⟨hl, as, M, ds, kk, kx, hh, rx, ⟨hdl, q⟩, bk, bx⟩ := h
  have tk : Takes (cxOf (L2.CX P w) P w K mg base N qual scope f cdv A outer s H E) (fun cls d _ H => E cls d H) := takes_of rfl rfl rfl rfl
  refine (hb cdv A outer s H E hr).run (G := ds.map some ++ List.replicate (N.length - n) none) ⟨hh, slots_start rx hdl⟩ q ?_ ?_
  · refine tk.imp ?_
    rintro cls dd s' H' ⟨x, G', as', M', nx, st', xc, q'⟩
    obtain ⟨h2, n2, ex⟩ := drop_nx nx hh st'.hold
    exact bx x cls dd H' as _ n2 h2 (xcIs_mono ex xc) q'
  · refine ⟨fun s' H' as' G' M' nx st' q' => ?_, fun _ _ _ _ _ _ _ z => z.elim, fun _ _ _ _ _ _ _ z => z.elim, outC_back hh bk⟩
    obtain ⟨h2, n2, ex⟩ := drop_nx nx hh st'.hold
    exact bk .non H' as .non _ n2 h2 (repX_non.mpr rfl) q'

/-! ### lists joined, repeated -/
def lisD (M : Ms) : D → Option (List D)
  | .lst ds => some ds
  | .cell i => (match M[i]? with
    | some (.ml ds) => some ds
    | _ => none)
  | _ => none
theorem lis_at {d : D} {ds : List D} {v : V} (hh : Hold K as M H) (h : lisD M d = some ds) (r : repX K as (hide as M H) d v) : ∃ p vs, v = .ref p ∧ H p = some (.lst vs) ∧ repL K (hide as M H) ds vs := by
  cases d with
  | lst es =>
    cases h
    have r : rep K (hide as M H) (.lst ds) v := r
    rw [rep] at r
    obtain ⟨p, vs, e1, e2, e3⟩ := r
    exact ⟨p, vs, e1, hide_ex _ _ e2, e3⟩
  | cell i =>
    obtain ⟨p, e1, e2⟩ := r
    unfold lisD at h
    simp only at h
    split at h
    · rename_i es em
      cases h
      obtain ⟨p', ho, z1, z2, vs, rfl, rl⟩ := hh.cel i _ em (fun z => nomatch z)
      rw [e1] at z1
      cases z1
      exact ⟨p, vs, e2, z2, rl⟩
    · cases h
  | _ => cases h
def repeatD (n : Nat) (ds : List D) : List D := (List.replicate n ds).flatten
theorem repL_rep {ds : List D} {vs : List V} (r : repL K H ds vs) : ∀ n, repL K H (repeatD n ds) (List.replicate n vs).flatten
  | 0 => repL_nil
  | n + 1 => by
    unfold repeatD
    rw [List.replicate_succ, List.replicate_succ, List.flatten_cons, List.flatten_cons]
    exact repL_append r (repL_rep r n)
def fCat (k2 : List D → Ms → DK → Prop) : DOp := fun x y M k _ => match lisD M x, lisD M y with
  | some xs, some ys => xs.length + ys.length ≤ big ∧ k2 (xs ++ ys) M k
  | _, _ => False
def fRep (k2 : List D → Ms → DK → Prop) : DOp := fun x y M k _ => match lisD M x, y with
  | some xs, .int n => (-(2 ^ 40) ≤ n ∧ n < 2 ^ 40 ∧ xs.length * n.toNat ≤ big) ∧ k2 (repeatD n.toNat xs) M k
  | _, _ => False
theorem od_cat {k2 : List D → Ms → DK → Prop} (hk : ToL X.K k2) : OpD X (binaryOp .Add) (fCat k2) := opd_of op_cat fun {s H as G M x y dx dy k kx Q} st rx ry hf bk => by
  unfold fCat at hf
  split at hf
  · rename_i xs ys e1 e2
    obtain ⟨p, vs, rfl, p2, p3⟩ := lis_at st.hold e1 rx
    obtain ⟨q, ws, rfl, q2, q3⟩ := lis_at st.hold e2 ry
    refine ⟨p, q, vs, ws, rfl, rfl, p2, q2, ?_, hk st.hold (repL_append p3 q3) hf.2 bk⟩
    rw [← repL_length p3, ← repL_length q3]
    exact big_line hf.1
  · exact hf.elim
theorem od_rep {k2 : List D → Ms → DK → Prop} (hk : ToL X.K k2) : OpD X (binaryOp .Mult) (fRep k2) := opd_of op_rep fun {s H as G M x y dx dy k kx Q} st rx ry hf bk => by
  unfold fRep at hf
  split at hf
  · rename_i xs n e1
    obtain ⟨p, vs, rfl, p2, p3⟩ := lis_at st.hold e1 rx
    refine ⟨p, n, vs, rfl, repX_int.mp ry, p2, by omega, by omega, ?_, hk st.hold (repL_rep p3 _) hf.2 bk⟩
    rw [← repL_length p3]
    exact big_line hf.1.2.2
  · exact hf.elim

/-! ### isinstance -/
abbrev ITab := List (IsT × IsT × Bool)
instance : DecidableEq IsT := fun a b => match a, b with
  | .ty m, .ty n => if h : m = n then isTrue (by rw [h]) else isFalse (fun z => h (by cases z; rfl))
  | .own m, .own n => if h : m = n then isTrue (by rw [h]) else isFalse (fun z => h (by cases z; rfl))
  | .ty _, .own _ => isFalse (fun z => nomatch z)
  | .own _, .ty _ => isFalse (fun z => nomatch z)
def ITOk (K : PySem.W.Frag) : ITab → Prop
  | [] => True
  | (a, b, r) :: t => (PySem.W.kitOne K (isTv K a) (isTv K b) = some r ∧ (match a with
    | .own C => OkT K C
    | .ty _ => True)) ∧ ITOk K t
def findI (a b : IsT) : ITab → Option Bool
  | [] => none
  | (x, y, r) :: t => if x = a ∧ y = b then some r else findI a b t
theorem ITOk.at_ {a b : IsT} {r : Bool} : ∀ {t : ITab}, ITOk K t → findI a b t = some r → PySem.W.kitOne K (isTv K a) (isTv K b) = some r ∧ (match a with
    | .own C => OkT K C
    | .ty _ => True)
  | [], _, h => by cases h
  | (x, y, r') :: t, ⟨h1, h2⟩, h => by
    unfold findI at h
    split at h
    · rename_i z
      obtain ⟨rfl, rfl⟩ := z
      cases h
      exact h1
    · exact ITOk.at_ h2 h
def lookI (t : ITab) (a b : IsT) : Option Bool := match a, b with
  | .ty m, .ty n => isB m n
  | a, b => findI a b t
def clsD : D → Option IsT
  | .ty n => some (.ty n)
  | .cls C => some (.own C)
  | _ => none
def cIsi (t : ITab) : DCl := fun ds M k => match ds with
  | [x, c] => (match tyOfD M x, clsD c with
    | some a, some b => (match lookI t a b with
      | some r => k (.bl r) M
      | none => False)
    | _, _ => False)
  | _ => False
theorem tyX_at {d : D} {v : V} {t : String} (hh : Hold K as M H) (h : tyD M d = some t) (r : repX K as (hide as M H) d v) : TyX K H v (.type t) := by
  cases d with
  | non => cases h; rw [repX_non] at r; subst r; exact .base .non
  | bl c => cases h; rw [repX_bl] at r; subst r; exact .base (.bl _)
  | int c => cases h; rw [repX_int] at r; subst r; exact .base (.int _)
  | str c => cases h; rw [repX_str] at r; subst r; exact .base (.str _)
  | lst ds =>
    cases h
    obtain ⟨p, vs, rfl, e2, e3⟩ := lis_at (ds := ds) hh rfl r
    exact .base (.lst e2)
  | tup ds =>
    cases h
    have r : rep K (hide as M H) (.tup ds) v := r
    rw [rep] at r
    obtain ⟨p, vs, rfl, e2, e3⟩ := r
    rcases hide_t e2 with (e | ⟨o, e⟩) | ⟨o, its, n, e, c, _⟩
    · exact .base (.tup e)
    · exact .fTuple e
    · exact .kTuple e c
  | cell i =>
    unfold tyD at h
    simp only at h
    split at h
    · rename_i ds em
      cases h
      obtain ⟨p, vs, rfl, e2, e3⟩ := lis_at (ds := ds) hh (by unfold lisD; simp only; rw [em]) r
      exact .base (.lst e2)
    · rename_i ds em
      cases h
      obtain ⟨p, e1, rfl⟩ := r
      obtain ⟨p', ho, q1, q2, vs, q3, _, _⟩ := hh.cel i _ em (fun z => nomatch z)
      rw [e1] at q1
      cases q1
      exact .base (.tup (by rw [q2, q3]; rfl))
    · rename_i ds em
      cases h
      obtain ⟨p, e1, rfl⟩ := r
      obtain ⟨p', ho, q1, q2, vs, q3, _, _⟩ := hh.cel i _ em (fun z => nomatch z)
      rw [e1] at q1
      cases q1
      exact .base (.lst (by rw [q2, q3]; rfl))
    · cases h
  | _ => cases h
theorem rd_isi {t : ITab} (T : ITOk K t) : RdC K (rIsi K) (cIsi t) := by
  intro H as M ds vs k Q hh rr q bk
  unfold cIsi at q
  split at q
  · rename_i x c
    obtain ⟨v, w, rfl, rx, rc⟩ := rXs2 rr
    split at q
    · rename_i ta tb e1 e2
      split at q
      · rename_i r e3
        have hc : ∃ u, ClsV w u ∧ u = isTv K tb := by
          unfold clsD at e2
          split at e2
          · cases e2
            have rc : rep K (hide as M H) (.ty _) w := rc
            rw [rep] at rc
            subst rc
            exact ⟨_, .ty _, rfl⟩
          · cases e2
            have rc : rep K (hide as M H) (.cls _) w := rc
            rw [rep] at rc
            subst rc
            exact ⟨_, .own _, rfl⟩
          · cases e2
        obtain ⟨u, hu, rfl⟩ := hc
        have fin := bk _ H as (.bl r) M Nx.refl hh (repX_bl.mpr rfl) q
        cases ta with
        | ty m =>
          unfold tyOfD at e1
          split at e1
          · rename_i n en
            cases e1
            refine ⟨v, w, .type m, _, r, rfl, hu, tyX_at hh en rx, ?_, fin⟩
            cases tb with
            | ty n => exact isB_ok e3
            | own C => exact (T.at_ e3).1
          · split at e1 <;> cases e1
        | own C =>
          have e3 : findI (.own C) tb t = some r := by
            cases tb <;> exact e3
          obtain ⟨g1, g2⟩ := T.at_ e3
          unfold tyOfD at e1
          split at e1
          · cases e1
          · split at e1
            · rename_i C' ns ds ei
              cases e1
              obtain ⟨p, dx, ws, rfl, p2, p3, p4⟩ := ins_at hh ei rx
              exact ⟨.ref p, w, .ref (He.ga K C), _, r, rfl, hu, .base (.ins p2 g2.cl g2.ha g2.hn g2.ht g2.hm), g1, fin⟩
            · cases e1
      · exact q.elim
    · exact q.elim
  · exact q.elim
end
end DL

/-! DLk: what of the text the readings rest on; the law. -/
namespace DL
open PySem PySem.Spec PyProof.Rows L2 Evl
open Classical

abbrev Fact := PySem.W.Frag → Bool
abbrev fa (f : He.Fa) : Fact := fun K => f.ok K
/-- a def of the text; via: the kind of the record through which its class hands it out -/
structure DD extends He.DefD where
  via : Option String := none
  clo : Bool := false
/-- where a def stands -/
def adD (K : PySem.W.Frag) (d : DD) : Addr := match d.via with
  | none => He.fAd K d.at_
  | some T => (match PySem.W.recIn K (He.fAd K d.at_) T with
    | some (.ref g :: _) => g
    | _ => 0)
def seenD (K : PySem.W.Frag) (d : DD) : He.FnW := (K.lookup (adD K d)).bind fun ob => match ob.data with
  | .func z => some (z.name, z.qualname, z.params, z.body, z.scope, z.globals, (if d.clo then [] else z.closure), z.builtins)
  | _ => none
def goodD (K : PySem.W.Frag) (d : DD) : Bool := PySem.W.keepIn K (.ref (adD K d)) && (((K.lookup (adD K d)).map fun ob => match ob.data with
  | .func z => PySem.W.codeIn K z.code d.qual && (He.dflB K z.defaults (d.dvs K) && He.kwdB K z.kwdefaults (d.kws K))
  | _ => false).getD false)
theorem goodD_fun {K : PySem.W.Frag} {d : DD} (hcl : d.clo = false) (e : seenD K d = d.val) (c : goodD K d = true) : ∃ fd, FunD K d.name d.qual d.params d.body d.scope (d.dvs K) (d.kws K) (adD K d) fd := by
  unfold goodD at c
  rw [Bool.and_eq_true] at c
  obtain ⟨keep, c⟩ := c
  unfold seenD at e
  rw [hcl] at e
  cases look : K.lookup (adD K d) with
  | none => rw [look] at c; cases c
  | some ob =>
    rw [look] at c e
    obtain ⟨oc, od, dt, osl⟩ := ob
    cases dt with
    | func z =>
      obtain ⟨a1, a2, a3, a4, a5, a6, a7, a8, a9, a10, a11, a12, a13, a14, a15⟩ := z
      have c2 : (PySem.W.codeIn K a13 d.qual && (He.dflB K a8 (d.dvs K) && He.kwdB K a9 (d.kws K))) = true := c
      rw [Bool.and_eq_true, Bool.and_eq_true] at c2
      have e2 : (some (a1, a2, a3, a4, a5, a6, (if false = true then [] else a7), a15) : He.FnW) = some (d.name, d.qual, d.params, .stmts d.body, d.scope, mainGlobals, [], builtinsNs) := e
      simp only [Option.some.injEq, Prod.mk.injEq] at e2
      obtain ⟨w1, w2, w3, w4, w5, w6, w7, w8⟩ := e2
      subst w1 w2 w3 w4 w5 w6 w7 w8
      exact ⟨_, ⟨oc, od, a8, a9, a10, a11, a12, a13, a14, osl, rfl, look, c2.1, He.dflB_ok c2.2.1, He.kwdB_ok c2.2.2⟩, keep⟩
    | _ => cases c
def obsK (fs : List Fact) (fn : List DD) (K : PySem.W.Frag) : He.AlD := ((fs.all fun f => f K) && fn.all fun d => goodD K d, fn.map fun d => seenD K d)
def valK (fn : List DD) : He.AlD := (true, fn.map fun d => d.val)
def obsKG (n : Nat) (fs : List Fact) (fn : List DD) (g : Addr → Option Obj) : He.AlD := obsK fs fn (He.frG g (cStatics :: He.asD g n))
def hookK (n : Nat) (fs : List Fact) (fn : List DD) : PySem.W.Hook where
  α := He.AlD
  obs := fun s => obsKG n fs fn s.heap.get?
  val := fun _ => valK fn
  says := fun _ h => ∃ K : PySem.W.Frag, K.In h ∧ obsK fs fn K = valK fn
  of := fun _ _ e => ⟨_, He.frG_in, e⟩
  keeps := fun _ _ _ ⟨K, hK, c⟩ k => ⟨K, PySem.W.Frag.In.keeps hK k, c⟩
theorem obsKG_eq {n : Nat} {fs : List Fact} {fn : List DD} {g : Addr → Option Obj} {s : Shared} (h : ∀ a, g a = s.heap.get? a) : obsKG n fs fn g = (hookK n fs fn).obs s := by
  have e : g = s.heap.get? := funext h
  rw [e] <;> rfl
structure PgOk (P : Program) (file : Str) : Prop where
  file : P.main.file = file
  top : (P.main.scope.names.lookup ("super" : Str)).isSome = false
def pgFile : Str := "/claim/cut.py"
/-- what the text says, where the module's names stand -/
structure Txt (P : Program) (fs : List Fact) (fn : List DD) (K : PySem.W.Frag) (mg : Str → Option Value) : Prop where
  says : obsK fs fn K = valK fn
  ns : ∃ h : Heap, K.In h ∧ h.Ns mainGlobals mg
  pg : PgOk P pgFile
section
variable {P : Program} {fs : List Fact} {fn : List DD} {K : PySem.W.Frag} {mg : Str → Option Value}
theorem Txt.fact (t : Txt P fs fn K mg) (i : Nat) {f : Fact} (h : fs[i]? = some f := by rfl) : f K = true := by
  have c1 := (Bool.and_eq_true_iff.mp (show ((fs.all fun f => f K) && fn.all fun d => goodD K d) = true from congrArg (fun z : He.AlD => z.1) t.says)).1
  exact List.all_eq_true.mp c1 f (List.mem_of_getElem? h)
theorem Txt.def_ (t : Txt P fs fn K mg) (i : Nat) {d : DD} (h : fn[i]? = some d := by rfl) (hcl : d.clo = false := by rfl) : ∃ fd, FunD K d.name d.qual d.params d.body d.scope (d.dvs K) (d.kws K) (adD K d) fd := by
  have c2 := (Bool.and_eq_true_iff.mp (show ((fs.all fun f => f K) && fn.all fun d => goodD K d) = true from congrArg (fun z : He.AlD => z.1) t.says)).2
  have e : fn.map (fun d => seenD K d) = fn.map fun d => d.val := congrArg (fun z : He.AlD => z.2) t.says
  have e2 : (fn.map fun d => seenD K d)[i]? = (fn.map fun d => d.val)[i]? := by rw [e]
  rw [List.getElem?_map, List.getElem?_map, h] at e2
  exact goodD_fun hcl (Option.some.inj e2) (List.all_eq_true.mp c2 d (List.mem_of_getElem? h))
theorem Txt.glo (t : Txt P fs fn K mg) (i : Nat) {x : Str} (h : fs[i]? = some (fa (.glo x)) := by rfl) : mg x = some (.ref (He.ga K x)) := by
  obtain ⟨h0, X, G⟩ := t.ns
  exact He.glo_ok X G (t.fact i h)
theorem Txt.free (t : Txt P fs fn K mg) (i : Nat) {x : Str} (h : fs[i]? = some (fa (.free x)) := by rfl) : mg x = none := by
  obtain ⟨h0, X, G⟩ := t.ns
  exact He.free_ok X G (t.fact i h)
theorem Txt.int (t : Txt P fs fn K mg) (i : Nat) {x : Str} {n : Int} (h : fs[i]? = some (fa (.int x n)) := by rfl) : ∃ z, mg x = some (.int n z) := by
  obtain ⟨h0, X, G⟩ := t.ns
  exact He.int_ok X G (t.fact i h)
theorem Txt.cls (t : Txt P fs fn K mg) (i : Nat) {x : Str} (h : fs[i]? = some (fa (.cls x)) := by rfl) : Cls K (He.ga K x) := He.cls_ok (t.fact i h)
theorem Txt.noat (t : Txt P fs fn K mg) (i : Nat) {x f : Str} (h : fs[i]? = some (fa (.noat x f)) := by rfl) : NoAttr K (He.ga K x) f := He.noat_ok (t.fact i h)
theorem Txt.meth (t : Txt P fs fn K mg) (i : Nat) {x m : Str} (h : fs[i]? = some (fa (.meth x m)) := by rfl) : Meth K (He.ga K x) m (He.ma K (He.ga K x) m) := He.meth_ok (t.fact i h)
theorem Txt.mkr (t : Txt P fs fn K mg) (i : Nat) {x : Str} (h : fs[i]? = some (fa (.mkr x)) := by rfl) : Mk K (He.ga K x) (He.ma K (He.ga K x) "__init__") := He.mkr_ok (t.fact i h)
theorem Txt.exm (t : Txt P fs fn K mg) (i : Nat) {x y : Str} {b : Bool} (h : fs[i]? = some (fa (.exm x y b)) := by rfl) : PySem.W.exmOne K (.ref (He.ga K x)) (.ref (He.ga K y)) = some b := He.exm_ok (t.fact i h)
def fSelf (x : Str) : Fact := fun K => PySem.W.selfFirst K (He.ga K x)
theorem Txt.self (t : Txt P fs fn K mg) (i : Nat) {x : Str} (h : fs[i]? = some (fSelf x) := by rfl) : PySem.W.selfFirst K (He.ga K x) = true := t.fact i h
def fExc (x : Str) : Fact := fun K => PySem.W.excIn K (He.ga K x) He.veBase "ValueError.__new__" && (PySem.W.keepIn K (.ref (He.ga K x)) && (decide (PySem.W.subIn K (.ref (He.ga K x)) (.type "BaseException") = some true) && decide (PySem.W.typeIn K (.ref (He.ga K x)) = some (.type "type"))))
theorem Txt.exc (t : Txt P fs fn K mg) (i j : Nat) {x : Str} (h : fs[i]? = some (fExc x) := by rfl) (hg : fs[j]? = some (fa (.glo x)) := by rfl) : OkE K mg x := by
  have c := t.fact i h
  unfold fExc at c
  rw [Bool.and_eq_true, Bool.and_eq_true, Bool.and_eq_true] at c
  exact ⟨t.glo j hg, c.1, c.2.1, of_decide_eq_true c.2.2.1, of_decide_eq_true c.2.2.2⟩
def fTy (x : Str) : Fact := fun K => (He.Fa.cls x).ok K && (decide (PySem.W.findIn K (.ref (He.ga K x)) "__class__" = some (some (.builtin "object.__class__"))) && (decide (PySem.W.specialIn K (.builtin "object.__class__") "__get__" = some (some (.builtin "getset_descriptor.__get__"))) &&
  (decide (PySem.W.takesIn K (.builtin "object.__class__") = some true) && decide (PySem.W.mroIn K (He.ga K x) (.type "object") = some true))))
theorem Txt.ty (t : Txt P fs fn K mg) (i : Nat) {x : Str} (h : fs[i]? = some (fTy x) := by rfl) : OkT K x := by
  have c := t.fact i h
  unfold fTy at c
  rw [Bool.and_eq_true, Bool.and_eq_true, Bool.and_eq_true, Bool.and_eq_true] at c
  exact ⟨He.cls_ok c.1, of_decide_eq_true c.2.1, of_decide_eq_true c.2.2.1, of_decide_eq_true c.2.2.2.1, of_decide_eq_true c.2.2.2.2⟩
def fKit (a b : IsT) (r : Bool) : Fact := fun K => decide (PySem.W.kitOne K (isTv K a) (isTv K b) = some r)
theorem Txt.kit (t : Txt P fs fn K mg) (i : Nat) {a b : IsT} {r : Bool} (h : fs[i]? = some (fKit a b r) := by rfl) : PySem.W.kitOne K (isTv K a) (isTv K b) = some r := of_decide_eq_true (t.fact i h)
end

section
variable {P : Program} {w : World} {K : PySem.W.Frag} {mg : Str → Option Value} {base : Heap} {x : Str} {d : DD} {fd : FuncData} {N ps : List Str} {k n : Nat} {b : DTS}
abbrev cxD (P : Program) (w : World) (K : PySem.W.Frag) (mg : Str → Option Value) (base : Heap) (N : List Str) (d : DD) (cdv : Value) (A : Around) (ou : List Env) (s : Shared) (H : Hp) (E : XK) : Cx :=
  cxOf (L2.CX P w) P w K mg base N d.qual d.scope (adD K d) cdv A ou s H E
abbrev FunDD (K : PySem.W.Frag) (d : DD) (fd : FuncData) : Prop := FunD K d.name d.qual d.params d.body d.scope (d.dvs K) (d.kws K) (adD K d) fd
/-- the body of a def, in every frame -/
abbrev Bod (P : Program) (w : World) (K : PySem.W.Frag) (mg : Str → Option Value) (base : Heap) (N : List Str) (d : DD) (k : Nat) (b : DTS) : Prop :=
  ∀ (cdv : Value) (A : Around) (ou : List Env) (s : Shared) (H : Hp) (E : XK), Room k (A.deeper (envOfC d.qual d.scope s.heap.objs.size (adD K d) cdv)) → WS (cxD P w K mg base N d cdv A ou s H E) d.body b
theorem okF {dfs : List D} {ds : List Value} {dvs : List V} (F : FunDD K d fd) (hm : mg x = some (.ref (adD K d))) (hb : Binds K fd ps ds) (hv : Vals dvs ds) (hdf : ∀ H, repL K H dfs dvs) (S : FnScope N ps d.scope) (hn : ps.length = n) (body : Bod P w K mg base N d k b) : OkF P w K mg base (k + 1) x n dfs (dFn n N.length b) :=
  ⟨⟨_, fd, ps, ds, dvs, hm, F.kp, hb, hv, hdf, fn_ok F S hn body⟩⟩
theorem okFC {dfs : List D} {ds : List Value} {dvs : List V} (F : FunDD K d fd) (hm : mg x = some (.ref (adD K d))) (hb : Binds K fd ps ds) (hv : Vals dvs ds) (hdf : ∀ H, repL K H dfs dvs) (S : FnScope N ps d.scope) (hn : ps.length = n) (body : Bod P w K mg base N d k b) : OkF P w K mg base (k + 1) x n dfs (dFnC n N.length b) :=
  ⟨⟨_, fd, ps, ds, dvs, hm, F.kp, hb, hv, hdf, fnC_ok F S hn body⟩⟩
/-- nothing is promised -/
theorem okF_no (F : FunDD K d fd) (hm : mg x = some (.ref (adD K d))) (hb : Binds K fd ps []) : OkF P w K mg base k x n [] (fun _ _ _ _ => False) := by
  refine ⟨⟨_, fd, ps, [], [], hm, F.kp, hb, .nil, fun _ => repL_nil, ⟨fun vs H Q E h => ?_, fun A ou s H ag us vs Q E _ _ _ _ h => ?_⟩⟩⟩
  · obtain ⟨_, _, _, _, _, _, _, _, z, _⟩ := h
    exact z.elim
  · obtain ⟨_, _, _, _, _, _, _, _, z, _⟩ := h
    exact z.elim
theorem okM {C m : Str} {dfs : List D} {ds : List Value} {dvs : List V} (F : FunDD K d fd) (hc : Cls K (He.ga K C)) (hm : Meth K (He.ga K C) m (adD K d)) (hb : Binds K fd ps ds) (hv : Vals dvs ds) (hdf : ∀ H, repL K H dfs dvs) (S : FnScope N ps d.scope) (hn : ps.length = n) (body : Bod P w K mg base N d k b) : OkM P w K mg base (k + 1) C m n dfs (dFn n N.length b) :=
  ⟨⟨_, fd, ps, ds, dvs, hc, hm, hb, hv, hdf, fn_ok F S hn body⟩⟩
theorem okI {C : Str} {dfs : List D} {ds : List Value} {dvs : List V} (F : FunDD K d fd) (hg : mg C = some (.ref (He.ga K C))) (hm : Mk K (He.ga K C) (adD K d)) (hb : Binds K fd ps ds) (hv : Vals dvs ds) (hdf : ∀ H, repL K H dfs dvs) (S : FnScope N ps d.scope) (hn : ps.length = n) (body : Bod P w K mg base N d k b) : OkI P w K mg base (k + 1) C n dfs (dFn n N.length b) :=
  ⟨⟨_, fd, ps, ds, dvs, hg, hm, hb, hv, hdf, fn_ok F S hn body⟩⟩
theorem OkIt.mono {C f : Str} {j k : Nat} (h : OkIt P w K mg base j C f) (hk : j ≤ k) : OkIt P w K mg base k C f := by
  obtain ⟨⟨m, fd, ps, a, b, c⟩, ⟨m2, fd2, ps2, a2, b2, c2⟩⟩ := h
  exact ⟨⟨m, fd, ps, a, b, ⟨c.len, fun A ou sh H ag us vs Q E hr => c.run A ou sh H ag us vs Q E (hr.mono hk)⟩⟩, ⟨m2, fd2, ps2, a2, b2, c2.mono hk⟩⟩
/-- names of the frame, by place -/
theorem vL {X : Cx} (i : Nat) {x : Str} {pos : Pos} (hN : X.N[i]? = some x := by rfl) (hv : X.env.scope.names.lookup x = some .local := by first | rfl | kernel_rfl) (hd : (x == ("__debug__" : Str)) = false := by decide) (hcd : (x == ("__classdict__" : Str)) = false := by decide) : WE X (.Name x pos) (dVar i) := we_var i (pe_var hN (Or.inl hv) hd hcd)
theorem vC {X : Cx} (i : Nat) {x : Str} {pos : Pos} (hN : X.N[i]? = some x := by rfl) (hv : X.env.scope.names.lookup x = some .cell := by first | rfl | kernel_rfl) (hd : (x == ("__debug__" : Str)) = false := by decide) (hcd : (x == ("__classdict__" : Str)) = false := by decide) : WE X (.Name x pos) (dVar i) := we_var i (pe_var hN (Or.inr (Or.inl hv)) hd hcd)
theorem vF {X : Cx} (i : Nat) {x : Str} {pos : Pos} (hN : X.N[i]? = some x := by rfl) (hv : X.env.scope.names.lookup x = some .free := by first | rfl | kernel_rfl) (hd : (x == ("__debug__" : Str)) = false := by decide) (hcd : (x == ("__classdict__" : Str)) = false := by decide) : WE X (.Name x pos) (dVar i) := we_var i (pe_var hN (Or.inr (Or.inr hv)) hd hcd)
end

/-! ### the law -/
theorem law_cx0 {P : Program} {w : World} {K : PySem.W.Frag} {mg : Str → Option Value} {base : Heap} {k n : Nat} {f : Addr} {fd : FuncData} {ps : List Str} {dn : DSp} (F : FnOk P w K mg base (L2.CX P w) k f fd ps (lift K n dn)) :
    FnOk P w K mg base CX0 k f fd ps (fun vs H Q _ => lift K n dn vs H Q (fun _ _ _ => False)) := by
  refine ⟨fun vs H Q E h => F.len vs H Q _ h, fun A ou s H ag us vs Q E hr ev bd rl h => ?_⟩
  refine codeAny_mono (F.run A ou s H ag us vs Q _ hr ev bd rl h) fun r s' got => ?_
  cases r with
  | error e =>
    obtain ⟨_, _, _, _, _, _, _, _, _, _, _, _, z⟩ := got
    exact z.elim
  | ok fl =>
    cases fl with
    | ret u => exact got
    | next => exact got
    | brk => exact got
    | cont => exact got
/-- the law's promise: every script answers True -/
def LawD (dn : DSp) : Prop := ∀ ns : List Int, ns.length ≤ 63 → dn [.rl (ns.map .int)] [] (fun v _ => v = .bl true) (fun _ _ => False)
theorem law_lift {K : PySem.W.Frag} {dn : DSp} (h : LawD dn) {H : Hp} {a : Addr} {ns : List Int} (hl : ns.length ≤ 63) (hS : SqL K H a (ns.map V.int)) : lift K 1 dn [.ref a] H (fun v _ => v = .bl true) (fun _ _ _ => False) := by
  have eh : hide ⟨[], fun _ => False⟩ [] H = H := by
    funext b
    refine hide_out ?_
    rintro (⟨i, mo, e, _⟩ | z)
    · cases e
    · exact z
  refine ⟨rfl, ⟨[], fun _ => False⟩, [], [.rl (ns.map .int)], _, _, ⟨rfl, fun i j a mi mj e => (by cases e), fun i mo e => (by cases e), fun a ha => (nomatch ha), fun a ha => ha.elim⟩, ?_, h ns hl, ?_, ?_⟩
  · refine ⟨.ref a, [], rfl, ?_, rfl⟩
    show rep K _ (.rl _) _
    rw [eh, rep]
    exact ⟨a, _, rfl, hS, repL_ints ns⟩
  · rintro v H' as' d' M' n hh r rfl
    exact repX_bl.mp r
  · rintro x cls dd H' as' M' n hh xc z
    exact z
end DL

/-! DLl: x in a list, == of nested data, isinstance of a caught error, bool, sum. -/
namespace DL
open PySem PySem.Spec PyProof.Rows L2 Evl
open Classical

/-! ### x in xs -/
/-- == of a datum of a list and a scalar -/
def eqS : D → D → Bool
  | .non, .non => true
  | .bl a, .bl b => a == b
  | .bl a, .int b => (if a then 1 else 0) == b
  | .int a, .bl b => a == (if b then 1 else 0)
  | .int a, .int b => a == b
  | .str a, .str b => a == b
  | _, _ => false
def scalD : D → Bool
  | .non => true
  | .bl _ => true
  | .int _ => true
  | .str _ => true
  | _ => false
def fIn (neg : Bool) : DOp := fun x y M k _ => match seqD M y with
  | some ds => scalD x = true ∧ ds.all scalD = true ∧ k (.bl (xor neg (ds.any fun d => eqS d x))) M
  | none => False
section
variable {X : Cx} {K : PySem.W.Frag} {as as1 : AS} {M M1 : Ms} {H H1 : Hp} {G : Gm} {s : L2.St} {kx : DX} {k : DK} {Q : VK} {a b c e : Expr} {da db dc : DTE}
theorem scal_flat {d : D} {v : V} (h : scalD d = true) (r : rep K H d v) : flatV v = true := by
  cases d <;> first
    | (cases h; done)
    | (rw [rep] at r; subst r; rfl)
theorem eqS_V {d x : D} {v u : V} (hd : scalD d = true) (hx : scalD x = true) (r : rep K H d v) (rx : rep K H x u) : eqV v u = eqS d x := by
  cases d <;> first
    | (cases hd; done)
    | (cases x <;> first
        | (cases hx; done)
        | (rw [rep] at r; rw [rep] at rx; subst r rx; rfl))
theorem in_rep {x : D} {u : V} (hx : scalD x = true) (rx : rep K H x u) : ∀ {ds : List D} {vs : List V}, repL K H ds vs → ds.all scalD = true → vs.all flatV = true ∧ inV u vs = ds.any fun d => eqS d x
  | [], vs, r, _ => by
    rw [repL] at r
    subst r
    exact ⟨rfl, rfl⟩
  | d :: ds, vs, r, h => by
    rw [repL] at r
    obtain ⟨v, t, rfl, r1, r2⟩ := r
    rw [List.all_cons, Bool.and_eq_true] at h
    obtain ⟨h1, h2⟩ := in_rep hx rx r2 h.2
    refine ⟨by rw [List.all_cons, scal_flat h.1 r1, h1]; rfl, ?_⟩
    unfold inV at h2 ⊢
    rw [List.any_cons, List.any_cons, h2, eqS_V h.1 hx r1 rx]
theorem scal_rep {as : AS} {d : D} {v : V} (h : scalD d = true) (r : repX K as H d v) : rep K H d v := by
  cases d <;> first
    | exact r
    | cases h
theorem od_in : OpD X (compareOp .In) (fIn false) := opd_of op_in_seq fun {s H as G M x y dx dy k kx Q} st rx ry hf bk => by
  unfold fIn at hf
  split at hf
  · rename_i ds e
    obtain ⟨h1, h2, q⟩ := hf
    obtain ⟨p, vs, rfl, r1, r2⟩ := seq_rd st.hold e ry
    have rx1 := scal_rep h1 rx
    obtain ⟨g1, g2⟩ := in_rep h1 rx1 r1 h2
    refine ⟨p, vs, rfl, r2, scal_flat h1 rx1, g1, bk _ H as _ M Nx.refl st.hold (repX_bl.mpr rfl) ?_⟩
    rw [g2]
    simpa using q
  · exact hf.elim
theorem od_notIn : OpD X (compareOp .NotIn) (fIn true) := opd_of op_notIn_seq fun {s H as G M x y dx dy k kx Q} st rx ry hf bk => by
  unfold fIn at hf
  split at hf
  · rename_i ds e
    obtain ⟨h1, h2, q⟩ := hf
    obtain ⟨p, vs, rfl, r1, r2⟩ := seq_rd st.hold e ry
    have rx1 := scal_rep h1 rx
    obtain ⟨g1, g2⟩ := in_rep h1 rx1 r1 h2
    refine ⟨p, vs, rfl, r2, scal_flat h1 rx1, g1, bk _ H as _ M Nx.refl st.hold (repX_bl.mpr rfl) ?_⟩
    rw [g2]
    simpa using q
  · exact hf.elim

/-! ### == of nested data -/
mutual
def toPy : D → Option PyData
  | .non => some .none
  | .bl b => some (.bool b)
  | .int i => some (.int i)
  | .str z => some (.str z)
  | .lst ds => (match toPyL ds with
    | some ps => some (.list ps)
    | none => none)
  | .tup ds => (match toPyL ds with
    | some ps => some (.tuple ps)
    | none => none)
  | _ => none
def toPyL : List D → Option (List PyData)
  | [] => some []
  | d :: ds => (match toPy d, toPyL ds with
    | some p, some ps => some (p :: ps)
    | _, _ => none)
end
def toPyM (M : Ms) : D → Option PyData
  | .cell i => (match M[i]? with
    | some (.ml ds) => toPy (.lst ds)
    | _ => none)
  | .rl ds => toPy (.lst ds)
  | d => toPy d
mutual
theorem toPy_ok : ∀ (d : D) (v : V) (p : PyData), toPy d = some p → rep K H d v → Dp K H v p
  | .non, v, p, e, r => by
    cases (show some PyData.none = some p from by simpa only [toPy] using e)
    rw [rep] at r
    subst r
    exact .non
  | .bl b, v, p, e, r => by
    cases (show some (PyData.bool b) = some p from by simpa only [toPy] using e)
    rw [rep] at r
    subst r
    exact .bl b
  | .int b, v, p, e, r => by
    cases (show some (PyData.int b) = some p from by simpa only [toPy] using e)
    rw [rep] at r
    subst r
    exact .int b
  | .str b, v, p, e, r => by
    cases (show some (PyData.str b) = some p from by simpa only [toPy] using e)
    rw [rep] at r
    subst r
    exact .str b
  | .lst ds, v, p, e, r => by
    rw [toPy] at e
    cases z : toPyL ds with
    | none => rw [z] at e; cases e
    | some ps =>
      rw [z] at e
      cases e
      rw [rep] at r
      obtain ⟨a, vs, rfl, h1, h2⟩ := r
      exact .lst (SqL.of h1) (toPyL_ok ds vs ps z h2)
  | .tup ds, v, p, e, r => by
    rw [toPy] at e
    cases z : toPyL ds with
    | none => rw [z] at e; cases e
    | some ps =>
      rw [z] at e
      cases e
      rw [rep] at r
      obtain ⟨a, vs, rfl, h1, h2⟩ := r
      exact .tup h1 (toPyL_ok ds vs ps z h2)
  | .ty _, _, _, e, _ => by simp [toPy] at e
  | .ins _ _ _, _, _, e, _ => by simp [toPy] at e
  | .cell _, _, _, e, _ => by simp [toPy] at e
  | .raw _, _, _, e, _ => by simp [toPy] at e
  | .rl _, _, _, e, _ => by simp [toPy] at e
  | .cls _, _, _, e, _ => by simp [toPy] at e
  | .xo _ _ _ _ _, _, _, e, _ => by simp [toPy] at e
theorem toPyL_ok : ∀ (ds : List D) (vs : List V) (ps : List PyData), toPyL ds = some ps → repL K H ds vs → DpAll K H vs ps
  | [], vs, ps, e, r => by
    cases (show some [] = some ps from by simpa only [toPyL] using e)
    rw [repL] at r
    subst r
    exact .nil
  | d :: ds, vs, ps, e, r => by
    rw [toPyL] at e
    rw [repL] at r
    obtain ⟨v, t, rfl, r1, r2⟩ := r
    cases z : toPy d with
    | none => rw [z] at e; simp at e
    | some p =>
      cases z2 : toPyL ds with
      | none => rw [z, z2] at e; simp at e
      | some qs =>
        rw [z, z2] at e
        cases e
        exact .cons (toPy_ok d v p z r1) (toPyL_ok ds t qs z2 r2)
end
theorem dp_ex (e : Ex H H1) : ∀ {v : V} {p : PyData}, Dp K H v p → True := fun _ => trivial
theorem toPyM_ok {d : D} {v : V} {p : PyData} (hh : Hold K as M H) (e : toPyM M d = some p) (r : repX K as (hide as M H) d v) : Dp K H v p := by
  have go : ∀ d : D, toPy d = some p → rep K (hide as M H) d v → Dp K H v p := fun d e r => toPy_ok d v p e (rep_mono hide_ex _ _ r)
  have ls : ∀ (ds : List D) (q : Addr) (vs : List V), v = .ref q → SqL K H q vs → repL K (hide as M H) ds vs → toPy (.lst ds) = some p → Dp K H v p := by
    intro ds q vs ev hq rl e
    rw [toPy] at e
    cases z : toPyL ds with
    | none => rw [z] at e; cases e
    | some ps =>
      rw [z] at e
      cases e
      subst ev
      exact .lst hq (toPyL_ok ds vs ps z (repL_mono hide_ex _ _ rl))
  cases d with
  | cell i =>
    unfold toPyM at e
    simp only at e
    split at e
    · rename_i ds em
      obtain ⟨q, vs, rfl, h1, h2⟩ := lis_at (ds := ds) hh (by unfold lisD; simp only; rw [em]) r
      exact ls ds q vs rfl (SqL.of h1) h2 e
    · cases e
  | rl ds =>
    have r : rep K (hide as M H) (.rl ds) v := r
    rw [rep] at r
    obtain ⟨q, vs, e1, e2, e3⟩ := r
    exact ls ds q vs e1 (ex_l hide_ex e2) e3 e
  | _ => exact go _ e r
def fEqD (neg : Bool) : DOp := fun x y M k _ => match toPyM M x, toPyM M y with
  | some p, some q => (SeqAt.shaped p = true ∧ SeqAt.shaped q = true) ∧ k (.bl (xor neg (PyData.eqv p q))) M
  | _, _ => False
theorem od_eqD (hu : X.A.units + 64 < cLine) : OpD X (compareOp .Eq) (fEqD false) := opd_of (op_eqD hu) fun {s H as G M x y dx dy k kx Q} st rx ry hf bk => by
  unfold fEqD at hf
  split at hf
  · rename_i p q e1 e2
    exact ⟨p, q, toPyM_ok st.hold e1 rx, toPyM_ok st.hold e2 ry, hf.1.1, hf.1.2, bk _ H as _ M Nx.refl st.hold (repX_bl.mpr (by simp)) hf.2⟩
  · exact hf.elim
theorem od_neD (hu : X.A.units + 64 < cLine) : OpD X (compareOp .NotEq) (fEqD true) := opd_of (op_neD hu) fun {s H as G M x y dx dy k kx Q} st rx ry hf bk => by
  unfold fEqD at hf
  split at hf
  · rename_i p q e1 e2
    exact ⟨p, q, toPyM_ok st.hold e1 rx, toPyM_ok st.hold e2 ry, hf.1.1, hf.1.2, bk _ H as _ M Nx.refl st.hold (repX_bl.mpr (by simp)) hf.2⟩
  · exact hf.elim

/-! ### bool(x), sum(xs) -/
def cBool : DCl := fun ds M k => match ds with
  | [.int i] => k (.bl (i != 0)) M
  | [.bl b] => k (.bl b) M
  | _ => False
theorem rd_bool : RdC K (fun xs H Q => (∃ i, xs = [.int i] ∧ Q (.bl (i != 0)) H) ∨ ∃ k, xs = [.bl k] ∧ Q (.bl k) H) cBool := by
  intro H as M ds vs k Q hh rr q bk
  unfold cBool at q
  split at q
  · obtain ⟨v, rfl, rx⟩ := rXs1 rr
    rw [repX_int.mp rx]
    exact Or.inl ⟨_, rfl, bk _ H as _ M Nx.refl hh (repX_bl.mpr rfl) q⟩
  · obtain ⟨v, rfl, rx⟩ := rXs1 rr
    rw [repX_bl.mp rx]
    exact Or.inr ⟨_, rfl, bk _ H as _ M Nx.refl hh (repX_bl.mpr rfl) q⟩
  · exact q.elim
def cSum : DCl := fun ds M k => match ds with
  | [d] => (match seqD M d with
    | some xs => (match intsD xs with
      | some ns => (match d with | .tup _ => False | _ => True) ∧ k (.int ns.sum) M
      | none => False)
    | none => False)
  | _ => False
theorem rd_sum : RdC K (rSum K) cSum := by
  intro H as M ds vs k Q hh rr q bk
  unfold cSum at q
  split at q
  · rename_i d
    obtain ⟨v, rfl, rx⟩ := rXs1 rr
    split at q
    · rename_i xs e
      split at q
      · rename_i ns ei
        obtain ⟨q0, q⟩ := q
        obtain ⟨p, ws, rfl, e2, e3⟩ := seq_at hh e rx
        have exs := intsD_eq ei
        subst exs
        have ew := repL_ints_inv e2
        subst ew
        refine ⟨p, ns, rfl, ?_, bk _ H as _ M Nx.refl hh (repX_int.mpr rfl) q⟩
        rcases e3 with ⟨_, _, q⟩ | ⟨_, rfl, _⟩ | ⟨i, _, _, _, q⟩ | ⟨_, _, q⟩
        · exact hide_l q
        · exact q0.elim
        · exact SqL.of q
        · exact q
      · exact q.elim
    · exact q.elim
  · exact q.elim

/-! ### isinstance(e, C), e the caught error -/
def ETOk (K : PySem.W.Frag) : ITab → Prop
  | [] => True
  | (.own C, b, r) :: t => (PySem.W.kitOne K (isTv K (.own C)) (isTv K b) = some r ∧ ExcC K (He.ga K C)) ∧ ETOk K t
  | (.ty _, _, _) :: t => ETOk K t
theorem ETOk.at_ {C : Str} {b : IsT} {r : Bool} {t : ITab} (T : ETOk K t) (h : findI (.own C) b t = some r) : PySem.W.kitOne K (.ref (He.ga K C)) (isTv K b) = some r ∧ ExcC K (He.ga K C) := by
  induction t with
  | nil => cases h
  | cons e t ih =>
    obtain ⟨x, y, r'⟩ := e
    unfold findI at h
    cases x with
    | own x =>
      obtain ⟨h1, h2⟩ := T
      split at h
      · rename_i z
        obtain ⟨z1, rfl⟩ := z
        cases z1
        cases h
        exact h1
      · exact ih h2 h
    | ty x =>
      split at h
      · rename_i z
        cases z.1
      · exact ih T h
def cIsiE (t : ITab) (a : Addr) (x : XD) : DCl := fun ds M k => match ds with
  | [.xo a' _ C' _ _, c] => a' = a ∧ C' = x.C ∧ x.ns = [] ∧ (match clsD c with
    | some b => (match findI (.own x.C) b t with
      | some r => k (.bl r) M
      | none => False)
    | none => False)
  | _ => False
theorem cd_isiE {t : ITab} {p : Addr} {oe : Obj} {dd : Option Addr} {pn : List (Addr × Obj)} {x : XD} (T : ETOk X.K t) (hz : Zc (.ref (He.ga X.K x.C)) dd oe) (hv : ∃ vs, oe.data = .fields vs) (hn : x.ns = [] → dd = none) :
    CallD (X.suite p ((p, oe) :: pn)) (.builtin "isinstance") (coR (cIsiE t p x)) := by
  intro s H as G M ds vs k kx Q pins sh us st rx hf tk bk I ru
  unfold coR cIsiE at hf
  split at hf
  · rename_i a' dd' C' ns' ds' c
    obtain ⟨rfl, rfl, e0, hf⟩ := hf
    obtain ⟨v, w, rfl, r1, r2⟩ := rXs2 rx
    split at hf
    · rename_i b eb
      split at hf
      · rename_i r er
        obtain ⟨g1, g2⟩ := T.at_ er
        have e1 := hn e0
        subst e1
        have r1 : rep X.K (hide as M H) (.xo a' dd' x.C ns' ds') v := r1
        rw [rep] at r1
        obtain ⟨rfl, _⟩ := r1
        refine call_isE g2 hz hv pins sh s H [.ref a', w] us Q I ru ⟨w, isTv X.K b, r, rfl, fun u hu => ?_, g1, bk _ H as _ M Nx.refl st.hold (repX_bl.mpr rfl) hf⟩
        unfold clsD at eb
        split at eb
        · cases eb
          have r2 : rep X.K (hide as M H) (.ty _) w := r2
          rw [rep] at r2
          subst r2
          exact hu
        · cases eb
          have r2 : rep X.K (hide as M H) (.cls _) w := r2
          rw [rep] at r2
          subst r2
          exact hu
        · cases eb
      · exact hf.elim
    · exact hf.elim
  · exact hf.elim
end
def fExcC (x : Str) : Fact := fun K => decide (PySem.W.findIn K (.ref (He.ga K x)) "__getattribute__" = some (some (.builtin "BaseException.__getattribute__"))) && (decide (PySem.W.findIn K (.ref (He.ga K x)) "__getattr__" = some none) &&
  (decide (PySem.W.subIn K (.ref (He.ga K x)) (.type "BaseException") = some true) && (PySem.W.hasDictIn K (He.ga K x) && (decide (PySem.W.findIn K (.ref (He.ga K x)) "__class__" = some (some (.builtin "object.__class__"))) &&
  (decide (PySem.W.specialIn K (.builtin "object.__class__") "__get__" = some (some (.builtin "getset_descriptor.__get__"))) && (decide (PySem.W.takesIn K (.builtin "object.__class__") = some true) && decide (PySem.W.mroIn K (He.ga K x) (.type "object") = some true)))))))
theorem Txt.excC {P : Program} {fs : List Fact} {fn : List DD} {K : PySem.W.Frag} {mg : Str → Option Value} (t : Txt P fs fn K mg) (i : Nat) {x : Str} (h : fs[i]? = some (fExcC x) := by rfl) : ExcC K (He.ga K x) := by
  have c := t.fact i h
  unfold fExcC at c
  simp only [Bool.and_eq_true, decide_eq_true_eq] at c
  obtain ⟨c1, c2, c3, c4, c5, c6, c7, c8⟩ := c
  exact ⟨c1, c2, c3, c4, c5, c6, c7, c8⟩
end DL

/-! DLm: slices, tuples joined. -/
namespace DL
open PySem PySem.Spec PyProof.Rows L2 Evl
open Classical

section
variable {X : Cx} {K : PySem.W.Frag} {as as1 : AS} {M M1 : Ms} {H H1 : Hp} {G : Gm} {s : L2.St} {kx : DX} {k : DK} {Q : VK} {a b c e : Expr} {da db dc : DTE}
def cutD (xs : List D) (lo hi : Option Int) : List D := (xs.drop (HT.sIx xs.length 0 lo)).take (HT.sIx xs.length xs.length hi - HT.sIx xs.length 0 lo)
theorem repL_drop : ∀ {ds : List D} {vs : List V} (n : Nat), repL K H ds vs → repL K H (ds.drop n) (vs.drop n)
  | _, _, 0, h => h
  | [], vs, n + 1, h => by
    rw [repL] at h
    subst h
    exact repL_nil
  | d :: ds, vs, n + 1, h => by
    rw [repL] at h
    obtain ⟨v, t, rfl, _, h2⟩ := h
    exact repL_drop n h2
theorem repL_take : ∀ {ds : List D} {vs : List V} (n : Nat), repL K H ds vs → repL K H (ds.take n) (vs.take n)
  | _, _, 0, h => by
    rw [List.take_zero, List.take_zero]
    exact repL_nil
  | [], vs, n + 1, h => by
    rw [repL] at h
    subst h
    exact repL_nil
  | d :: ds, vs, n + 1, h => by
    rw [repL] at h
    obtain ⟨v, t, rfl, h1, h2⟩ := h
    exact repL_cons h1 (repL_take n h2)
theorem repL_cut {ds : List D} {vs : List V} {lo hi : Option Int} (h : repL K H ds vs) : repL K H (cutD ds lo hi) (cutV vs lo hi) := by
  unfold cutD cutV
  rw [repL_length h]
  exact repL_take _ (repL_drop _ h)
/-- an end of a slice -/
abbrev DTO := Gm → Ms → (Option Int → Ms → Prop) → DX → Prop
structure WO (X : Cx) (e : Option Expr) (t : TO) (d : DTO) : Prop where
  po : PO X e t
  run : ∀ {s : L2.St} {H : Hp} {as : AS} {G : Gm} {M : Ms} {k : Option Int → Ms → Prop} {kx : DX} {Q : Option Int → Hp → Prop}, Stt X.K as G M s H → d G M k kx → Takes X (XWe X.K as M H G kx) →
    (∀ o H' as' M', Nx as M H as' M' H' → Hold X.K as' M' H' → k o M' → Q o H') → t s H Q
def dNoPart : DTO := fun _ M k _ => k none M
def dPart (da : DTE) : DTO := fun G M k kx => da G M (fun x M1 => match x with
  | .int i => k (some i) M1
  | _ => False) kx
theorem wo_none : WO X none tNoPart dNoPart := ⟨po_none, fun {s H as G M k kx Q} st hd tk bk => bk none H as M Nx.refl st.hold hd⟩
theorem wo_some (h : WE X e da) : WO X (some e) (tPart (semE X e)) (dPart da) := ⟨po_some pe_sem, fun {s H as G M k kx Q} st hd tk bk => h.run st hd tk fun v H' as' d' M' n hh r q => by
  cases d' with
  | int i => exact ⟨i, repX_int.mp r, bk _ H' as' M' n hh q⟩
  | _ => exact q.elim⟩
/-- xs[lo:hi] -/
def slD (k2 : List D → Ms → DK → Prop) (lo hi : Option Int) : D → Ms → DK → Prop := fun x M k => match x with
  | .tup xs => k (.tup (cutD xs lo hi)) M
  | x => (match seqD M x with
    | some xs => k2 (cutD xs lo hi) M k
    | none => False)
def dSl (k2 : List D → Ms → DK → Prop) (da : DTE) (dl dh : DTO) : DTE := fun G M k kx => da G M (fun x M1 => dl G M1 (fun lo M2 => dh G M2 (fun hi M3 => slD k2 lo hi x M3 k) kx) kx) kx
theorem we_sl {lo hi : Option Expr} {tl th : TO} {dl dh : DTO} {p2 pos : Pos} {k2 : List D → Ms → DK → Prop} (hk : ToL X.K k2) (ha : WE X a da) (hl : WO X lo tl dl) (hh : WO X hi th dh) : WE X (.Subscript a (.Slice lo hi none p2) pos) (dSl k2 da dl dh) := ⟨fun {s H as G M k kx Q} st hd tk bk =>
  PE.sem (pe_slice (sl_list.or sl_tupA) pe_sem hl.po hh.po) (ha.run st hd tk fun v H1 as1 d1 M1 n1 h1 r1 q1 => hl.run (st.nx n1 h1) q1 (XW.nx n1 tk) fun lo H2 as2 M2 n2 h2 q2 => hh.run (st.nx (n1.trans n2) h2) q2 (XW.nx (n1.trans n2) tk) fun hi H3 as3 M3 n3 h3 q3 => by
    have r3 := repX_nx (n2.trans n3) r1
    have nn := (n1.trans n2).trans n3
    have lst : ∀ xs, seqD M3 d1 = some xs → (∀ ys, d1 ≠ .tup ys) → k2 (cutD xs lo hi) M3 k → rSlL X.K v lo hi H3 Q ∨ rSlA X.K v lo hi H3 Q := by
      intro xs e nt q
      obtain ⟨p, vs, rfl, e2, e3⟩ := seq_at h3 e r3
      have sq : SqL X.K H3 p vs := by
        rcases e3 with ⟨_, _, q⟩ | ⟨_, w, _⟩ | ⟨i, _, _, _, q⟩ | ⟨_, _, q⟩
        · exact hide_l q
        · exact absurd w (nt _)
        · exact SqL.of q
        · exact q
      exact Or.inl ⟨p, vs, rfl, sq, hk h3 (repL_cut e2) q (bk.nx nn)⟩
    cases d1 with
    | tup xs =>
      have r3 : rep X.K (hide as3 M3 H3) (.tup xs) v := r3
      rw [rep] at r3
      obtain ⟨p, vs, rfl, e2, e3⟩ := r3
      refine Or.inr ⟨p, vs, rfl, hide_t e2, fun hw => ?_, fun hw p' hp => ?_⟩
      · have ec : cutD xs lo hi = xs := by
          unfold cutD
          rw [repL_length e3, hw.1, hw.2, List.drop_zero, Nat.sub_zero, ← repL_length e3, List.take_length]
        have q3 : k (.tup (cutD xs lo hi)) M3 := q3
        rw [ec] at q3
        refine bk _ H3 as3 (.tup xs) M3 nn h3 (repX_of ?_) q3
        rw [rep]
        exact ⟨p, vs, rfl, e2, e3⟩
      · obtain ⟨n4, h4, r4⟩ := new_tup h3 hp (repL_cut (lo := lo) (hi := hi) e3)
        exact bk _ _ as3 _ M3 (nn.trans n4) h4 r4 q3
    | _ =>
      unfold slD at q3
      simp only at q3
      split at q3
      · rename_i xs e
        exact lst xs e (fun _ z => nomatch z) q3
      · exact q3.elim)⟩
/-- tuples joined -/
def fCatT : DOp := fun x y M k _ => match x, y with
  | .tup xs, .tup ys => xs.length + ys.length ≤ big ∧ k (.tup (xs ++ ys)) M
  | _, _ => False
theorem od_catT : OpD X (binaryOp .Add) fCatT := opd_of op_catA fun {s H as G M x y dx dy k kx Q} st rx ry hf bk => by
  unfold fCatT at hf
  split at hf
  · rename_i xs ys
    have rx : rep X.K (hide as M H) (.tup xs) x := rx
    have ry : rep X.K (hide as M H) (.tup ys) y := ry
    rw [rep] at rx ry
    obtain ⟨p, vs, rfl, p2, p3⟩ := rx
    obtain ⟨q, ws, rfl, q2, q3⟩ := ry
    refine ⟨p, q, vs, ws, rfl, rfl, hide_t p2, hide_t q2, ?_, fun e => ?_, fun e e2 => ?_, fun e e2 l hl => ?_⟩
    · rw [← repL_length p3, ← repL_length q3]
      exact big_line hf.1
    · subst e
      have ex : xs = [] := by
        have := repL_length p3
        exact List.eq_nil_of_length_eq_zero this
      subst ex
      refine bk _ H as _ M Nx.refl st.hold (repX_of ?_) hf.2
      rw [List.nil_append, rep]
      exact ⟨q, ws, rfl, q2, q3⟩
    · subst e2
      have ex : ys = [] := by
        have := repL_length q3
        exact List.eq_nil_of_length_eq_zero this
      subst ex
      refine bk _ H as _ M Nx.refl st.hold (repX_of ?_) hf.2
      rw [List.append_nil, rep]
      exact ⟨p, vs, rfl, p2, p3⟩
    · obtain ⟨n2, h2, r2⟩ := new_tup st.hold hl (repL_append p3 q3)
      exact bk _ _ as _ M n2 h2 r2 hf.2
  · exact hf.elim
end
end DL

/-! DLn: an own class against an int. -/
namespace DL
open PySem PySem.Spec PyProof.Rows L2 Evl
open Classical
section
variable {prog : Program} {w : World} {A : Around} {E : Value → Shared → Prop} {s : Shared} {K : PySem.W.Frag} {x C L f : Addr} {h₀ : Heap} {m : Str → Option Value} {ox : Obj} {od : Option Obj}
theorem cbn_looks {M : Model} {h : Heap} {t : Value} {n : Str} {r : Option Value} (hrc : ∀ id, r ≠ some (.builtin id)) : PySem.W.Looks M h (calledByName t n r) r.isSome := by
  cases r with
  | none => exact PySem.W.Looks.of_pure rfl
  | some v =>
    cases v with
    | builtin id => exact absurd rfl (hrc id)
    | _ => exact PySem.W.Looks.of_pure rfl
theorem own_int1 {nm : String} {i : Int} {tk : Tok} {Q : Value → Shared → Prop} {r tr : Option Value} (X : K.In s.heap) (I : PySem.W.InstAt s.heap x ox C od) (hc : PySem.W.selfFirst K C = true)
    (hs : PySem.W.findIn K (.ref C) (PySem.dunder nm) = some (some (.ref f))) (hf : PySem.W.isFn K (.ref f) = true) (hr : PySem.W.findIn K (.ref C) (PySem.dunderR nm) = some r) (hrc : ∀ id, r ≠ some (.builtin id)) (hsub : PySem.W.subIn K (.type "int") (.ref C) = some false)
    (hint : fillsNumberSlot (.type "int") nm = pure true) (hrev : typeLookup (.type "int") (PySem.dunderR nm) = pure tr)
    (h : wpAny (model prog w) A (call (.ref f) [.ref x, .int i tk]) (PySem.W.CmpBack Q) E s) : wpAny (model prog w) A (binaryOp1 nm (.ref x) (.int i tk)) (fun v s' => ∃ u, v = some u ∧ Q u s') E s := by
  obtain ⟨cd, hcd, hm⟩ := PySem.W.any_some hc
  obtain ⟨rest, hm⟩ : ∃ rest, cd.mro = .ref C :: rest := by
    cases q : cd.mro with
    | nil => rw [q] at hm; cases hm
    | cons a t => rw [q] at hm; exact ⟨t, by rw [List.head?_cons] at hm; cases (beq_iff_eq.mp hm); rfl⟩
  unfold binaryOp1
  refine wpAny_bind (I.type.here (wpAny_bind ?_))
  refine wpAny_of_eq (a := Value.type "int") (by rfl) ?_
  refine wpAny_bind ((PySem.W.fills_K X hcd hm hs).here ?_)
  refine wpAny_bind (m := if (Value.ref C == Value.type "int") = true then pure false else fillsNumberSlot (Value.type "int") nm) ?_
  rw [if_neg (show ¬ ((Value.ref C == Value.type "int") = true) from Bool.false_ne_true), hint]
  refine wpAny_pure ?_
  dsimp only
  rw [if_pos (show (true && true) = true from rfl)]
  refine wpAny_bind ((PySem.W.looks_subIn X hsub).here ?_)
  rw [if_neg Bool.false_ne_true, if_neg Bool.false_ne_true, if_pos (show (true && true && !false) = true from rfl)]
  refine wpAny_bind ?_
  unfold numberSlotInPython
  refine wpAny_bind ((PySem.W.looks_findIn X hs).here ?_)
  refine wpAny_bind (wpAny_of_eq (a := true) (by rfl) ?_)
  refine wpAny_bind ((PySem.W.looks_findIn X hr).here ?_)
  refine wpAny_bind ((cbn_looks hrc).here ?_)
  rw [if_pos (show (true || r.isSome) = true from rfl)]
  refine wpAny_pure ?_
  rw [if_pos rfl]
  refine wpAny_bind (wpAny_of_eq (a := false) (by rfl) ?_)
  rw [if_pos (show (!false) = true from rfl), hrev]
  refine wpAny_bind (wpAny_pure ?_)
  rw [if_pos rfl]
  refine wpAny_bind (m := tryMethod (.ref x) _ _) ?_
  unfold tryMethod
  refine wpAny_bind (PySem.W.special_fn X I hs (beq_iff_eq.mp hf) (wpAny_mono h (fun v s' hv => ?_) fun _ _ e => e))
  cases v <;> first | exact hv.elim | exact wpAny_pure (wpAny_pure ⟨_, rfl, hv⟩)
theorem int_fill_mul : fillsNumberSlot (.type "int") "mul" = pure true := by
  unfold fillsNumberSlot
  simp only [typeLookup_type, builtinLookup_eq_fast]
  kernel_rfl
theorem int_r_mul : typeLookup (.type "int") (PySem.dunderR "mul") = pure (some (.builtin "int.__rmul__")) := by
  rw [typeLookup_type, builtinLookup_eq_fast]
  kernel_rfl
end
/-- what an own class says of an operator against an int -/
structure OkNI (K : PySem.W.Frag) (C rn : Str) : Prop where
  sf : PySem.W.selfFirst K (He.ga K C) = true
  rv : ∃ r, PySem.W.findIn K (.ref (He.ga K C)) rn = some r ∧ ∀ id, r ≠ some (.builtin id)
  sb : PySem.W.subIn K (.type "int") (.ref (He.ga K C)) = some false
def fOwnI (t : MTab) : DOp := fun x y M k kx => match insD M x, y with
  | some (C, _, _), .int i => (match t.lookup C with
    | some (n, df, dn) => ([x, .int i] ++ df).length = n ∧ dn ([x, .int i] ++ df) M k kx
    | none => False)
  | _, _ => False
theorem od_ownI {X : Cx} {op : Operator} {mm rn : Str} {t : MTab} {j : Nat} {tr : Option Value} (F : OkMs X.prog X.w X.K X.mg X.base j mm t) (hr : Room j X.A) (hN : AllC (fun C => OkNI X.K C rn) (t.map (·.1))) (hint : fillsNumberSlot (.type "int") op.info.2 = pure true) (hrev : typeLookup (.type "int") (PySem.dunderR op.info.2) = pure tr)
    (hm : PySem.dunder op.info.2 = mm := by rfl) (hm2 : PySem.dunderR op.info.2 = rn := by rfl) : OpD X (binaryOp op) (fOwnI t) := by
  intro s H as G M x y dx dy k kx Q pins sh u v st rx ry hf tk bk I ru rv
  unfold fOwnI at hf
  split at hf
  · rename_i C n1 d1 i e1
    obtain ⟨p, dp, vs, rfl, p2, p3, p4⟩ := ins_at st.hold e1 rx
    obtain rfl : u = Value.ref p := ru
    have ey := repX_int.mp ry
    subst ey
    obtain ⟨ti, rfl⟩ := rv
    cases z : t.lookup C with
    | none => rw [z] at hf; exact hf.elim
    | some w =>
      obtain ⟨n, df, dn⟩ := w
      rw [z] at hf
      obtain ⟨hl, hf⟩ := hf
      obtain ⟨f, fd, ps, dsv, dvs, g1, g2, g3, g4, g5, g6⟩ := (F.at_ z).ex
      obtain ⟨ob, od, J⟩ := ins_st I p2
      obtain ⟨c1, ⟨r, c2, c3⟩, c4⟩ := hN.at_ (lookup_in z)
      unfold binaryOp
      refine wpAny_holding (wpAny_bind ?_)
      refine wpAny_mono (own_int1 (nm := op.info.2) (Q := EP X pins s Q) I.kIn J c1 (by rw [hm]; exact g2.at_) g2.fn (by rw [hm2]; exact c2) c3 c4 hint hrev
        (wpAny_mono (run_lift (P := True) (us := [.ref p, .int i ti]) (vs := [.ref p, .int i]) (ds := [dx, .int i]) (df := df) g6 hr g3 g4 g5 st ⟨.ref p, [.int i], rfl, rx, .int i, [], rfl, repX_int.mpr rfl, rfl⟩ hl hf tk bk I (.cons rfl (.cons ⟨ti, rfl⟩ .nil))) (fun r' s' h => ?_) fun _ _ z => z)) (fun r' s' h => ?_) fun _ _ z => z
      · obtain ⟨v, H', I', rv', q'⟩ := h
        exact rel_back rv' ⟨v, H', I', rv', q'⟩
      · obtain ⟨v, rfl, h⟩ := h
        exact wpAny_pure h
  · exact hf.elim
end DL

/-! DLo: static methods, properties, what is never reached, methods of lists. -/
namespace DL
open PySem PySem.Spec PyProof.Rows L2 Evl
open Classical

/-! ### what is never reached -/
def dNo : DTS := fun _ _ _ => False
theorem w1_no {X : Cx} {st : Stmt} : W1 X st dNo := ⟨fun _ hd _ _ => hd.elim⟩
def dNoE : DTE := fun _ _ _ _ => False
theorem we_no {X : Cx} {e : Expr} : WE X e dNoE := ⟨fun _ hd _ _ => hd.elim⟩

section
variable {X : Cx} {K : PySem.W.Frag} {as as1 : AS} {M M1 : Ms} {H H1 : Hp} {G : Gm} {s : L2.St} {kx : DX} {k : DK} {Q : VK} {a b c e : Expr} {da db dc : DTE} {ta tb tc : DTT} {pos : Pos}
/-! ### C.m(..), m a static method -/
structure OkS (P : Program) (w : World) (K : PySem.W.Frag) (mg : Str → Option Value) (base : Heap) (k : Nat) (C m : Str) (n : Nat) (df : List D) (dn : DSp) : Prop where
  gl : mg C = some (.ref (He.ga K C))
  rd : PySem.W.readsIn K (He.ga K C) (.type "type") = true
  ga : PySem.W.specialIn K (.ref (He.ga K C)) "__getattribute__" = some (some (.builtin "type.__getattribute__"))
  ex : ∃ p f fd ps ds dvs rest, PySem.W.findCls K (.ref (He.ga K C)) (.type "type") m = some (.get (.builtin "staticmethod.__get__") (.ref p) .none (.ref (He.ga K C))) ∧ PySem.W.recIn K p "staticmethod" = some (.ref f :: rest) ∧
    PySem.W.keepIn K (.ref f) = true ∧ Binds K fd ps ds ∧ Vals dvs ds ∧ (∀ H, repL K H df dvs) ∧ FnOk P w K mg base (L2.CX P w) k f fd ps (lift K n dn)
theorem OkS.mono {P : Program} {w : World} {mg : Str → Option Value} {base : Heap} {j k : Nat} {x m : Str} {n : Nat} {df : List D} {dn : DSp} (h : OkS P w K mg base j x m n df dn) (hk : j ≤ k) : OkS P w K mg base k x m n df dn := by
  obtain ⟨p, f, fd, ps, ds, dvs, rest, h1, h2, h3, h4, h5, h6, h7⟩ := h.ex
  exact ⟨h.gl, h.rd, h.ga, p, f, fd, ps, ds, dvs, rest, h1, h2, h3, h4, h5, h6, h7.mono hk⟩
theorem we_static {C m : Str} {p apos : Pos} {es : List Expr} {dt : DTA} {j n : Nat} {df : List D} {dn : DSp} {pl : Sem Bool} (F : OkS X.prog X.w X.K X.mg X.base j C m n df dn) (hr : Room j X.A) (hg : Gl X C) (ha : WA X (e :: es) dt)
    (hdb : (C == ("__debug__" : Str)) = false := by decide) (he : starEach (e :: es) X.env = (false, eval e X.env) :: starEach es X.env := by rfl) (hpl : (backTo pos (starEach es X.env)).any (·.1) = false := by rfl)
    (ht : eval (.Call (.Attribute (.Name C p) m apos) (e :: es) [] pos) X.env = (do
      let ov ← eval (.Name C p) X.env
      standAt apos.atName
      let (f, first) ← holding [ov] (getMethod ov m pl)
      callWith pos f first (backTo pos (starEach (e :: es) X.env)) (backToKw pos (keywordEach [] X.env))) := by rfl) :
    WE X (.Call (.Attribute (.Name C p) m apos) (e :: es) [] pos) (dCall n df dn dt) := ⟨fun {s H as G M k kx Q} st hd tk bk pins sh I => by
  obtain ⟨q, f, fd, ps, dsv, dvs, rest, h1, h2, h3, h4, h5, h6, h7⟩ := F.ex
  refine PySem.W.methodCall_KW (pl := pl) (ld_glob I hg F.gl ?_ hdb) ht
  refine PySem.W.method_cls I.kIn F.ga (PySem.W.cls_bind I.kIn F.rd h1 ?_)
  refine wpAny_call (PySem.W.sm_get (s := { sh with toks := sh.toks + 1 }) I.kIn h2 (PySem.W.handed_on rfl ?_))
  have I0 := I.tok (sh.toks + 1)
  refine PySem.W.callWith_K (h₀ := X.base) I0.ok.mod.kin h3 (thn (ha.run (Q := fun vs H1 => ∃ as1 ds M1, Nx as M H as1 M1 H1 ∧ Hold X.K as1 M1 H1 ∧ repXs X.K as1 (hide as1 M1 H1) ds vs ∧ (ds ++ df).length = n ∧ dn (ds ++ df) M1 k kx) st hd tk (fun vs H' as' ds M' n' hh rx q => ⟨as', ds, M', n', hh, rx, q⟩) pos pins _ I0) fun us s1 ⟨vs, H1, I1, r, as1, ds, M1, n1, hh1, rx, hl, q⟩ => ⟨I1.kIn, ?_⟩) he hpl
  exact run_lift (P := True) h7 hr h4 h5 h6 (st.nx n1 hh1) rx hl q (XW.nx n1 tk) (bk.nx n1) I1 r⟩

/-! ### o.f, f a property or a field -/
structure OkP (P : Program) (w : World) (K : PySem.W.Frag) (mg : Str → Option Value) (base : Heap) (k : Nat) (C f : Str) (n : Nat) (df : List D) (dn : DSp) : Prop where
  ex : ∃ p g fd ps ds dvs, Cls K (He.ga K C) ∧ PropOf K (He.ga K C) f p g ∧ Binds K fd ps ds ∧ Vals dvs ds ∧ (∀ H, repL K H df dvs) ∧ FnOk P w K mg base (L2.CX P w) k g fd ps (lift K n dn)
theorem OkP.mono {P : Program} {w : World} {mg : Str → Option Value} {base : Heap} {j k : Nat} {x m : Str} {n : Nat} {df : List D} {dn : DSp} (h : OkP P w K mg base j x m n df dn) (hk : j ≤ k) : OkP P w K mg base k x m n df dn := by
  obtain ⟨p, g, fd, ps, ds, dvs, h1, h2, h3, h4, h5, h6⟩ := h.ex
  exact ⟨⟨p, g, fd, ps, ds, dvs, h1, h2, h3, h4, h5, h6.mono hk⟩⟩
def OkPs (P : Program) (w : World) (K : PySem.W.Frag) (mg : Str → Option Value) (base : Heap) (k : Nat) (f : Str) : MTab → Prop
  | [] => True
  | (C, n, df, dn) :: r => OkP P w K mg base k C f n df dn ∧ OkPs P w K mg base k f r
theorem OkPs.at_ {P : Program} {w : World} {mg : Str → Option Value} {base : Heap} {k : Nat} {m : Str} : ∀ {t : MTab} {C : Str} {z : Nat × List D × DSp}, OkPs P w K mg base k m t → t.lookup C = some z → OkP P w K mg base k C m z.1 z.2.1 z.2.2
  | [], _, _, _, h => by cases h
  | (c, n, df, dn) :: r, C, z, ⟨h1, h2⟩, h => by
    rw [List.lookup_cons] at h
    by_cases y : C = c
    · subst y
      simp at h
      subst h
      exact h1
    · have yy : (C == c) = false := by simpa using y
      rw [yy] at h
      exact OkPs.at_ h2 h
def attD (cs : List Str) (f : Str) (t : MTab) (o : D) (M1 : Ms) (k : DK) : Prop := match insD M1 o with
  | some (C, ns, ds) => (match t.lookup C with
    | some (n, df, dn) => ([o] ++ df).length = n ∧ dn ([o] ++ df) M1 k X0
    | none => C ∈ cs ∧ (match lookD f ns ds with
      | some d => k d M1
      | none => False))
  | none => False
def dAttr (cs : List Str) (f : Str) (t : MTab) (da : DTE) : DTE := fun G M k kx => da G M (fun o M1 => attD cs f t o M1 k) kx
theorem we_attr {cs : List Str} {f : Str} {t : MTab} {j : Nat} (hf : Flds X.K f cs) (F : OkPs X.prog X.w X.K X.mg X.base j f t) (hr : Room (j + 1) X.A) (he : WE X e da) (hb : attributeBase e f X.env (eval e X.env) = eval e X.env := by rfl) :
    WE X (.Attribute e f pos) (dAttr cs f t da) := ⟨fun {s H as G M k kx Q} st hd tk bk pins sh I => by
  refine attr_of hb (thn (he.run (Q := fun x H1 => ∃ as1 d1 M1, Nx as M H as1 M1 H1 ∧ Hold X.K as1 M1 H1 ∧ repX X.K as1 (hide as1 M1 H1) d1 x ∧ attD cs f t d1 M1 k) st hd tk (fun v H' as' d' M' n h r q => ⟨as', d', M', n, h, r, q⟩) pins sh I) fun u s1 ⟨x, H1, I1, rx, as1, d1, M1, n1, h1, r1, q⟩ => ?_)
  unfold attD at q
  cases z : insD M1 d1 with
  | none => rw [z] at q; exact q.elim
  | some w =>
    obtain ⟨C, ns, fds⟩ := w
    rw [z] at q
    obtain ⟨p, dx, vs, e1, e2, e3, e4⟩ := ins_at h1 z r1
    subst e1
    obtain rfl : u = Value.ref p := rx
    simp only at q
    cases y : t.lookup C with
    | some w =>
      obtain ⟨n, df, dn⟩ := w
      rw [y] at q
      obtain ⟨hl, q⟩ := q
      obtain ⟨pp, g, fd, ps, dsv, dvs, g1, g2, g3, g4, g5, g6⟩ := (F.at_ y).ex
      have g7 := law_cx0 g6
      have rx2 : repXs X.K as1 (hide as1 M1 H1) ([d1] ++ df) ([.ref p] ++ dvs) := repXs_append ⟨.ref p, [], rfl, r1, rfl⟩ (repXs_of (as := as1) (g5 (hide as1 M1 H1)))
      refine getprop_ok (E := fun _ _ _ => False) I1 e2 g1 g2 g7 hr g3 g4 (fun _ _ _ _ _ _ _ h => h.elim) ?_
      refine ⟨?_, as1, M1, [d1] ++ df, k, X0, h1, rx2, q, bk.nx n1, fun x cls dd H' as' M' n' h' xc q' => q'⟩
      rw [show V.ref p :: dvs = [V.ref p] ++ dvs from rfl, ← repXs_length rx2]
      exact hl
    | none =>
      rw [y] at q
      obtain ⟨hc, q⟩ := q
      cases y2 : lookD f ns fds with
      | none => rw [y2] at q; exact q.elim
      | some d =>
        rw [y2] at q
        obtain ⟨u, g1, g2⟩ := lookD_zip e3 d y2
        obtain ⟨c1, c2⟩ := hf.at_ hc
        exact getattr_ok I1 e2 c1 c2 g1 fun u' s2 I2 ru => ⟨u, H1, I2, ru, bk u H1 as1 d M1 n1 h1 (repX_of g2) q⟩⟩

/-! ### methods of lists without arguments -/
def dRevIn (da : DTE) : DTE := fun G M k kx => da G M (fun o M1 => match o with
  | .cell j => (match M1[j]? with
    | some (.ml ds) => k .non (M1.set j (.ml ds.reverse))
    | _ => False)
  | _ => False) kx
def dClear (da : DTE) : DTE := fun G M k kx => da G M (fun o M1 => match o with
  | .cell j => (match M1[j]? with
    | some (.ml _) => k .non (M1.set j (.ml []))
    | _ => False)
  | _ => False) kx
theorem repL_reverse {H : Hp} : ∀ {ds : List D} {vs : List V}, repL K H ds vs → repL K H ds.reverse vs.reverse
  | [], vs, h => by
    rw [repL] at h
    subst h
    exact repL_nil
  | d :: ds, vs, h => by
    rw [repL] at h
    obtain ⟨v, r, rfl, h1, h2⟩ := h
    rw [List.reverse_cons, List.reverse_cons]
    exact repL_append (repL_reverse h2) (repL_one h1)
theorem we_reverse {o : Expr} {apos cpos : Pos} (ho : WE X o da) (hbase : attributeBase o "reverse" X.env (eval o X.env) = eval o X.env := by rfl) (hline : (apos.endLine == cpos.line) = true := by rfl) :
    WE X (.Call (.Attribute o "reverse" apos) [] [] cpos) (dRevIn da) := ⟨fun {s H as G M k kx Q} stt hd tk bk =>
  PE.sem (pe_bm0 PySem.F.plainAttrs_list PySem.F.slot_list_reverse PySem.F.type_list_reverse mt_reverse pe_sem hbase hline) (ho.run stt hd tk fun v H1 as1 o1 M1 n1 h1 r1 q1 => by
    cases o1 with
    | cell j =>
      simp only at q1
      split at q1
      · rename_i ds em
        obtain ⟨p, e1, rfl⟩ := id r1
        obtain ⟨p', ho', z1, z2, xs, rfl, rl⟩ := h1.cel j _ em (fun z => nomatch z)
        rw [e1] at z1
        cases z1
        obtain ⟨h3, n3⟩ := h1.write (mo' := .ml ds.reverse) (ho' := .lst xs.reverse) em (fun z => nomatch z) (fun z => nomatch z) e1 ⟨_, rfl, repL_reverse rl⟩
        exact ⟨Or.inl ⟨rfl, xs, SqL.of z2⟩, p, xs, rfl, rfl, z2, bk _ _ as1 _ _ (n1.trans n3) h3 (repX_non.mpr rfl) q1⟩
      · exact q1.elim
    | _ => exact q1.elim)⟩
theorem we_clear {o : Expr} {apos cpos : Pos} (ho : WE X o da) (hbase : attributeBase o "clear" X.env (eval o X.env) = eval o X.env := by rfl) (hline : (apos.endLine == cpos.line) = true := by rfl) :
    WE X (.Call (.Attribute o "clear" apos) [] [] cpos) (dClear da) := ⟨fun {s H as G M k kx Q} stt hd tk bk =>
  PE.sem (pe_bm0 PySem.F.plainAttrs_list PySem.F.slot_list_clear PySem.F.type_list_clear mt_clear pe_sem hbase hline) (ho.run stt hd tk fun v H1 as1 o1 M1 n1 h1 r1 q1 => by
    cases o1 with
    | cell j =>
      simp only at q1
      split at q1
      · rename_i ds em
        obtain ⟨p, e1, rfl⟩ := id r1
        obtain ⟨p', ho', z1, z2, xs, rfl, rl⟩ := h1.cel j _ em (fun z => nomatch z)
        rw [e1] at z1
        cases z1
        obtain ⟨h3, n3⟩ := h1.write (mo' := .ml []) (ho' := .lst []) em (fun z => nomatch z) (fun z => nomatch z) e1 ⟨_, rfl, repL_nil⟩
        exact ⟨Or.inl ⟨rfl, xs, SqL.of z2⟩, p, xs, rfl, rfl, z2, bk _ _ as1 _ _ (n1.trans n3) h3 (repX_non.mpr rfl) q1⟩
      · exact q1.elim
    | _ => exact q1.elim)⟩
/-- xs[::-1], a new list -/
def dRevS (k2 : List D → Ms → DK → Prop) (da : DTE) : DTE := fun G M k kx => da G M (fun o M1 => match lisD M1 o with
  | some ds => k2 ds.reverse M1 k
  | none => False) kx
/-! ### x += e, whole numbers -/
def dAugI (op : DOp) (i : Nat) (da : DTE) : DTS := fun E G M => match G[i]? with
  | some (some x) => da G M (fun y M1 => op x y M1 (fun d M2 => E.nx (G.set i (some d)) M2) (fun z M' => E.ex z G M')) (fun z M' => E.ex z G M')
  | _ => False
theorem w1_aug {i : Nat} {x : Str} {pos' : Pos} {op : Operator} {f : Int → Int → Int} (hN : X.N.Nodup) (hi : X.N[i]? = some x) (hx : Loc X.env.scope x) (he : WE X e da) (ho : PIp X op (ipI f)) (hf : X.fn x = true ∨ X.env.scope.names.lookup x = some .local := by first | exact .inl rfl | exact .inr rfl | assumption) :
    W1 X (.AugAssign (.Name x pos') op e pos) (dAugI (fII fun i j => some (.int (f i j))) i da) := ⟨fun {s H as G M D DE} stt hd tk rd => by
  refine PS.sem (ps_aug hN hi hx pe_sem ho hf) ?_
  unfold dAugI at hd
  split at hd
  · rename_i x' ex
    obtain ⟨v, e1, e2⟩ := stt.slots.2 i x' ex
    refine ⟨v, e1, ?_⟩
    refine he.run stt hd (takes_e tk) fun y H1 as1 d1 M1 n1 h1 r1 q1 => ?_
    unfold fII at q1
    split at q1
    · rename_i m n
      obtain rfl := repX_int.mp r1
      obtain rfl := repX_int.mp e2
      exact ⟨m, n, rfl, rfl, rd.nx _ _ as1 _ _ n1 ((stt.nx n1 h1).set (repX_int.mpr rfl)) q1⟩
    · exact q1.elim
  · exact hd.elim⟩
/-! ### comprehensions with two clauses -/
def lcE (bd : DBd) (dt : DTT) (de : DTE) (gd : Ms → Prop) (G : Gm) : List D → List D → Ms → (List D → Ms → Prop) → Prop
  | [], acc, M, k => gd M ∧ k acc M
  | x :: xs, acc, M, k => gd M ∧ (match bd x G with
    | some G' => dt G' M (fun c M1 => if c = true then de G' M1 (fun y M2 => plain y = true ∧ acc.length < big ∧ lcE bd dt de gd G xs (acc ++ [y]) M2 k) X0 else lcE bd dt de gd G xs acc M1 k) X0
    | none => False)
def lc2D (bd : DBd) (dt : DTT) (di1 : DTI) (bd1 : DBd) (dt1 : DTT) (de : DTE) (gd : Ms → Prop) (vs1 : List Nat) (G : Gm) : List D → List D → Ms → (List D → Ms → Prop) → Prop
  | [], acc, M, k => gd M ∧ k acc M
  | x :: xs, acc, M, k => gd M ∧ (match bd x G with
    | some G' => dt G' M (fun c M1 => if c = true then di1 G' M1 (fun ys gd1 M2 => lcE bd1 dt1 de gd1 (wipeG G' vs1) ys acc M2 (fun acc' M3 => lc2D bd dt di1 bd1 dt1 de gd vs1 G xs acc' M3 k)) X0
        else lc2D bd dt di1 bd1 dt1 de gd vs1 G xs acc M1 k) X0
    | none => False)
def dLc2 (di : DTI) (bd : DBd) (dt : DTT) (di1 : DTI) (bd1 : DBd) (dt1 : DTT) (de : DTE) (vs vs1 : List Nat) (k2 : List D → Ms → DK → Prop) : DTE := fun G M k kx => di G M (fun xs gd M1 => lc2D bd dt di1 bd1 dt1 de gd vs1 (wipeG G vs) xs [] M1 (fun acc M2 => k2 acc M2 k)) kx
theorem lcE_gd {bd : DBd} {dt : DTT} {de : DTE} {gd : Ms → Prop} {G : Gm} {xs acc : List D} {M : Ms} {k : List D → Ms → Prop} (h : lcE bd dt de gd G xs acc M k) : gd M := by
  cases xs with
  | nil => exact h.1
  | cons x xs => exact h.1
theorem lc2D_gd {bd bd1 : DBd} {dt dt1 : DTT} {di1 : DTI} {de : DTE} {gd : Ms → Prop} {vs1 : List Nat} {G : Gm} {xs acc : List D} {M : Ms} {k : List D → Ms → Prop} (h : lc2D bd dt di1 bd1 dt1 de gd vs1 G xs acc M k) : gd M := by
  cases xs with
  | nil => exact h.1
  | cons x xs => exact h.1
theorem it_any {J : It} {n : Nat} {Gd : Hp → Prop} {Y : Nat → Hp → V → Hp → Prop} (w : Walk J n Gd Y) (Pv : Nat → Hp → Prop) {B : V → Hp → (Hp → Prop) → Prop} {H0 : Hp} {Qd : Hp → Prop} (start : Pv 0 H0) (guard : ∀ i H, i ≤ n → Pv i H → Gd H)
    (turn : ∀ i x H H', i < n → Pv i H → Y i H x H' → B x H' (Pv (i + 1))) (fin : ∀ H, Pv n H → Qd H) :
    ∃ W : Nat → Nat → Hp → Prop, (∃ m, W 0 m H0) ∧ ∀ i m H, W i m H → (J.stop i H ∧ Qd H) ∨ (J.go i H ∧ ∃ N : Hp → Prop, (∀ H', N H' → ∃ m', m' < m ∧ W (i + 1) m' H') ∧ ∀ x H', J.yld i H x H' → B x H' N) := by
  refine ⟨fun i m H => i ≤ n ∧ Pv i H ∧ m + i = n, ⟨n, Nat.zero_le _, start, rfl⟩, ?_⟩
  rintro i m H ⟨le, p, em⟩
  have gd := guard i H le p
  rcases Nat.lt_or_ge i n with lt | ge
  · exact Or.inr ⟨w.goes i H lt gd, Pv (i + 1), fun H' p' => ⟨m - 1, by omega, lt, p', by omega⟩, fun x H' y => turn i x H H' lt p (w.yields i H x H' lt gd y)⟩
  · have ei : i = n := by omega
    subst ei
    exact Or.inl ⟨w.stops H gd, fin H p⟩
/-- the list in the making at L, out of sight; the state behind that of as1, M1, H1 -/
structure LcS (K : PySem.W.Frag) (as1 : AS) (M1 : Ms) (H1 : Hp) (L : Addr) (acc : List D) (as' : AS) (M' : Ms) (H' : Hp) : Prop where
  p1 : as1.l <+: as'.l
  p2 : as'.pv = as1.pv
  p3 : Ex (hide as1 M1 H1) (hide (as'.prv L) M' H')
  p4 : ∀ b, as1.pv b → H' b = H1 b
  p5 : Hold K (as'.prv L) M' H'
  p6 : ∃ ws, H' L = some (.lst ws) ∧ repL K (hide (as'.prv L) M' H') acc ws
theorem LcS.nx {as' as4 : AS} {M' M4 : Ms} {H' H4 : Hp} {L : Addr} {acc : List D} (S : LcS K as1 M1 H1 L acc as' M' H') (n : Nx (as'.prv L) M' H' as4 M4 H4) (h : Hold K as4 M4 H4) : as4 = (AS.mk as4.l as'.pv).prv L ∧ LcS K as1 M1 H1 L acc ⟨as4.l, as'.pv⟩ M4 H4 := by
  have e := prv_eta (as := as') (n.pv)
  obtain ⟨ws, w1, w2⟩ := S.p6
  refine ⟨e, S.p1.trans n.pre, S.p2, ?_, fun b hb => ?_, ?_, ws, ?_, ?_⟩
  · rw [← e]
    exact S.p3.trans n.ex
  · have hb' : as'.pv b := by rw [S.p2]; exact hb
    rw [n.prv b (Or.inl hb'), S.p4 b hb]
  · rw [← e]
    exact h
  · rw [n.prv L (Or.inr rfl)]
    exact w1
  · rw [← e]
    exact repL_mono n.ex _ _ w2
theorem LcS.app {as' : AS} {M' : Ms} {H' : Hp} {L : Addr} {acc : List D} {d : D} {v : V} (S : LcS K as1 M1 H1 L acc as' M' H') (np : ¬ as1.pv L) (r : rep K (hide (as'.prv L) M' H') d v) :
    ∃ ws, H' L = some (.lst ws) ∧ ws.length = acc.length ∧ LcS K as1 M1 H1 L (acc ++ [d]) as' M' (upd H' L (.lst (ws ++ [v]))) := by
  obtain ⟨ws, w1, w2⟩ := S.p6
  have e6 := hide_prv_upd (as := as') (M := M') (H := H') (p := L) (o := .lst (ws ++ [v])) (fun _ => trivial)
  refine ⟨ws, w1, (repL_length w2).symm, S.p1, S.p2, ?_, fun b hb => ?_, S.p5.hidW, ws ++ [v], upd_same, ?_⟩
  · rw [e6]
    exact S.p3
  · have zz : b ≠ L := fun z => np (by rw [← z]; exact hb)
    rw [upd_ne zz, S.p4 b hb]
  · rw [e6]
    exact repL_append w2 (repL_one r)
theorem lc2_read {tg iter : Expr} {di di1 : DTI} {bd bd1 : DBd} {dt dt1 : DTT} {de : DTE} {vs vs1 ts ts1 : List Nat} {k2 : List D → Ms → DK → Prop} {g g1 : TG} {wi1 : TI} (hi : WI X tg iter di) (hts : ∀ t ∈ ts, t ∈ vs) (hts1 : ∀ t ∈ ts1, t ∈ vs1) (fk : FinK k2)
    (rg : ∀ {s : L2.St} {H : Hp} {as : AS} {G G' : Gm} {M : Ms} {d : D} {v : V} {Q : L2.St → Hp → Prop}, Stt X.K as G M s H → rep X.K (hide as M H) d v → bd d G = some G' → (∀ s', But ts s s' → Stt X.K as G' M s' H → Q s' H) → g v s H Q)
    (rg1 : ∀ {s : L2.St} {H : Hp} {as : AS} {G G' : Gm} {M : Ms} {d : D} {v : V} {Q : L2.St → Hp → Prop}, Stt X.K as G M s H → rep X.K (hide as M H) d v → bd1 d G = some G' → (∀ s', But ts1 s s' → Stt X.K as G' M s' H → Q s' H) → g1 v s H Q)
    {tt tt1 : TT} {te : TE} (ht : ∀ {s : L2.St} {H : Hp} {as : AS} {G : Gm} {M : Ms} {k : Bool → Ms → Prop} {Q : Bool → Hp → Prop}, Stt X.K as G M s H → dt G M k X0 → (∀ b H' as' M', Nx as M H as' M' H' → Hold X.K as' M' H' → k b M' → Q b H') → tt s H Q)
    (ht1 : ∀ {s : L2.St} {H : Hp} {as : AS} {G : Gm} {M : Ms} {k : Bool → Ms → Prop} {Q : Bool → Hp → Prop}, Stt X.K as G M s H → dt1 G M k X0 → (∀ b H' as' M', Nx as M H as' M' H' → Hold X.K as' M' H' → k b M' → Q b H') → tt1 s H Q)
    (hi1 : ∀ {s : L2.St} {H : Hp} {as : AS} {G : Gm} {M : Ms} {k : List D → (Ms → Prop) → Ms → Prop} {R : It → Hp → Prop}, Stt X.K as G M s H → di1 G M k X0 →
      (∀ J H' as' M' xs gd, Nx as M H as' M' H' → Hold X.K as' M' H' → Wk X.K as' M' H' J xs gd → k xs gd M' → R J H') → wi1 s H R)
    (he : ∀ {s : L2.St} {H : Hp} {as : AS} {G : Gm} {M : Ms} {k : DK} {Q : VK}, Stt X.K as G M s H → de G M k X0 → Back X.K as M H k Q → te s H Q)
    {k : DK} {Q : VK} (st : Stt X.K as G M s H) (hd : dLc2 di bd dt di1 bd1 dt1 de vs vs1 k2 G M k kx) (tk : Takes X (XWe X.K as M H G kx)) (bk : Back X.K as M H k Q) : tLc2 (semI X tg iter) g tt wi1 g1 tt1 te vs vs1 s H Q := by
  refine hi.run st hd tk fun J H1 as1 M1 xs gd n1 h1 wk q => ?_
  intro L hL
  obtain ⟨P, Yy, W, hP, hY⟩ := wk.ex
  have npv : ¬ as1.pv L := fun z => (h1.pt L z).1 hL
  obtain ⟨h2, e2⟩ := h1.hid (o := .lst []) hL
  have st1 := st.nx n1 h1
  refine it_any W (fun i H' => ∃ (as' : AS) (M' : Ms) (acc : List D), LcS X.K as1 M1 H1 L acc as' M' H' ∧ acc.length ≤ big ∧ lc2D bd dt di1 bd1 dt1 de gd vs1 (wipeG G vs) (xs.drop i) acc M' (fun acc M2 => k2 acc M2 k))
    ⟨as1, M1, [], ⟨List.prefix_refl _, rfl, e2, fun b hb => upd_ne (fun z => npv (by rw [← z]; exact hb)), h2, [], upd_same, repL_nil⟩, Nat.zero_le _, q⟩ ?_ ?_ ?_
  · rintro i H' hi' ⟨as', M', acc, S, hb, p9⟩
    exact hP (as'.prv L) M' H' ⟨S.p1, S.p3⟩ S.p5 (lc2D_gd p9)
  · rintro i x H' H3 hi' ⟨as', M', acc, S, hb, p9⟩ y
    have gdm := lc2D_gd p9
    obtain ⟨d, f1, f2, f3, f4⟩ := hY i x (as'.prv L) M' H' H3 hi' ⟨S.p1, S.p3⟩ S.p5 gdm y
    have ed : xs.drop i = d :: xs.drop (i + 1) := by
      obtain ⟨hlt, e⟩ := List.getElem?_eq_some_iff.mp f1
      rw [List.drop_eq_getElem_cons hlt, e]
    rw [ed] at p9
    obtain ⟨_, p9⟩ := p9
    have S3 : LcS X.K as1 M1 H1 L acc as' M' H3 := (S.nx f3 f2).2
    cases z : bd d (wipeG G vs) with
    | none => rw [z] at p9; exact p9.elim
    | some G2 =>
      rw [z] at p9
      have sw : Stt X.K (as'.prv L) (wipeG G vs) M' (L2.wipe s vs) H3 := ⟨f2, by
        have z1 := st1.slots.wipe vs
        exact ⟨z1.1, fun j d' ej => by
          obtain ⟨v, y1, y2⟩ := z1.2 j d' ej
          exact ⟨v, y1, repX_mono (as := as1) (as1 := as'.prv L) S3.p1 S3.p3 y2⟩⟩⟩
      refine rg sw f4 z fun s2 b2 st2 => ⟨wipe_but hts b2, ?_⟩
      refine ht st2 p9 fun c H4 as4 M4 n4 h4 q4 => ?_
      obtain ⟨ea4, S4⟩ := S3.nx n4 h4
      cases c with
      | false =>
        rw [if_neg Bool.false_ne_true] at q4 ⊢
        exact ⟨_, M4, acc, S4, hb, q4⟩
      | true =>
        rw [if_pos rfl] at q4 ⊢
        refine hi1 (st2.nx n4 h4) q4 fun J1 H5 as5 M5 ys gd1 n5 h5 wk1 q5 => ?_
        have n5' := n5
        rw [ea4] at n5'
        obtain ⟨ea5, S5⟩ := S4.nx n5' h5
        have st5 := (st2.nx n4 h4).nx n5 h5
        obtain ⟨P1, Y1, W1, hP1, hY1⟩ := wk1.ex
        refine it_any W1 (fun j H' => ∃ (as' : AS) (M' : Ms) (acc : List D), LcS X.K as1 M1 H1 L acc as' M' H' ∧ Nw as5 M5 H5 (as'.prv L) M' H' ∧ acc.length ≤ big ∧ lcE bd1 dt1 de gd1 (wipeG G2 vs1) (ys.drop j) acc M' (fun acc' M3 => lc2D bd dt di1 bd1 dt1 de gd vs1 (wipeG G vs) (xs.drop (i + 1)) acc' M3 (fun acc M2 => k2 acc M2 k)))
          ⟨_, M5, acc, S5, by rw [← ea5]; exact ⟨List.prefix_refl _, Ex.refl _⟩, hb, q5⟩ ?_ ?_ ?_
        · rintro j H' hj ⟨as6, M6, acc6, S6, w6, hb6, p6⟩
          exact hP1 (as6.prv L) M6 H' w6 S6.p5 (lcE_gd p6)
        · rintro j x6 H6 H7 hj ⟨as6, M6, acc6, S6, w6, hb6, p6⟩ y6
          have gd6 := lcE_gd p6
          obtain ⟨d6, g1', g2', g3', g4'⟩ := hY1 j x6 (as6.prv L) M6 H6 H7 hj w6 S6.p5 gd6 y6
          have ed6 : ys.drop j = d6 :: ys.drop (j + 1) := by
            obtain ⟨hlt, e⟩ := List.getElem?_eq_some_iff.mp g1'
            rw [List.drop_eq_getElem_cons hlt, e]
          rw [ed6] at p6
          obtain ⟨_, p6⟩ := p6
          have S7 : LcS X.K as1 M1 H1 L acc6 as6 M6 H7 := (S6.nx g3' g2').2
          have w7 : Nw as5 M5 H5 (as6.prv L) M6 H7 := ⟨w6.pre, w6.ex.trans g3'.ex⟩
          cases z6 : bd1 d6 (wipeG G2 vs1) with
          | none => rw [z6] at p6; exact p6.elim
          | some G3 =>
            rw [z6] at p6
            have sw6 : Stt X.K (as6.prv L) (wipeG G2 vs1) M6 (L2.wipe s2 vs1) H7 := ⟨g2', by
              have z1 := st5.slots.wipe vs1
              exact ⟨z1.1, fun j d' ej => by
                obtain ⟨v, y1, y2⟩ := z1.2 j d' ej
                exact ⟨v, y1, repX_mono (as := as5) (as1 := as6.prv L) w7.pre w7.ex y2⟩⟩⟩
            refine rg1 sw6 g4' z6 fun s3 b3 st3 => ⟨wipe_but hts1 b3, ?_⟩
            refine ht1 st3 p6 fun c H8 as8 M8 n8 h8 q8 => ?_
            obtain ⟨ea8, S8⟩ := S7.nx n8 h8
            cases c with
            | false =>
              rw [if_neg Bool.false_ne_true] at q8 ⊢
              exact ⟨_, M8, acc6, S8, by rw [← ea8]; exact ⟨w7.pre.trans n8.pre, w7.ex.trans n8.ex⟩, hb6, q8⟩
            | true =>
              rw [if_pos rfl] at q8 ⊢
              refine he (st3.nx n8 h8) q8 fun w H9 as9 d9 M9 n9 h9 r9 q9 => ?_
              obtain ⟨pl, hlt, q9⟩ := q9
              have n9' := n9
              rw [ea8] at n9'
              obtain ⟨ea9, S9⟩ := S8.nx n9' h9
              have w9 : Nw as5 M5 H5 as9 M9 H9 := ⟨(w7.pre.trans n8.pre).trans n9.pre, (w7.ex.trans n8.ex).trans n9.ex⟩
              have r9' := rep_of_plain r9 pl
              rw [ea9] at r9'
              obtain ⟨ws, l9, wl, S10⟩ := S9.app npv r9'
              refine ⟨ws, l9, by rw [wl, sizeLine_eq]; have : acc6.length < 100000 := hlt; omega, _, M9, acc6 ++ [d9], S10, ?_, by rw [List.length_append]; exact hlt, q9⟩
              have e6 := hide_prv_upd (as := ⟨as9.l, as6.pv⟩) (M := M9) (H := H9) (p := L) (o := .lst (ws ++ [w])) (fun _ => trivial)
              refine ⟨?_, ?_⟩
              · rw [ea9] at w9
                exact w9.pre
              · rw [e6]
                rw [ea9] at w9
                exact w9.ex
        · rintro H' ⟨as6, M6, acc6, S6, w6, hb6, p6⟩
          rw [List.drop_length] at p6
          exact ⟨as6, M6, acc6, S6, hb6, p6.2⟩
  · rintro H' ⟨as', M', acc, S, hb, p9⟩
    rw [List.drop_length] at p9
    obtain ⟨ws, w1, w2⟩ := S.p6
    obtain ⟨as3, M3, d, g1, g2, g3, g4, g5, g6⟩ := fk (fun z => npv (by rw [← S.p2]; exact z)) S.p5 w1 w2 p9.2
    exact bk _ H' as3 d M3 (n1.trans ⟨S.p1.trans g3, g4.trans S.p2, S.p3.trans g5, S.p4⟩) g2 g6 g1
def semIb (X : Cx) (scope : Scope) (tg iter : Expr) : TI := fun σ H R => ∀ s H0 C cl fp, semI (bk X scope s H0 C cl fp) tg iter σ H R
theorem we_lc2 {tg iter tg1 iter1 elt : Expr} {ifs ifs1 : List Expr} {scope : Scope} {own : List (Str × Nat)} {di di1 : DTI} {bd bd1 : DBd} {dt dt1 : DTT} {de : DTE} {ts ts1 vs1 : List Nat} {g g1 : TG} {k2 : List D → Ms → DK → Prop}
    (fk : FinK k2) (hc : X.calm = true) (hN : X.N.Nodup) (ok : BlkOk X.N X.env.scope scope own) (hi : WI X tg iter di) (hts : ∀ t ∈ ts, t ∈ own.map (·.2)) (hts1 : ∀ t ∈ ts1, t ∈ vs1) (hv : ∀ i ∈ vs1, i ∈ own.map (·.2))
    (hg : ∀ (s : Shared) (H : Hp) (C : Addr) (cl : List (Str × Addr)) (fp : List Addr), WG (bk X scope s H C cl fp) tg g ts bd)
    (ht : ∀ (s : Shared) (H : Hp) (C : Addr) (cl : List (Str × Addr)) (fp : List Addr), WC (bk X scope s H C cl fp) ifs dt)
    (hi1 : ∀ (s : Shared) (H : Hp) (C : Addr) (cl : List (Str × Addr)) (fp : List Addr), WI (bk X scope s H C cl fp) tg1 iter1 di1)
    (hg1 : ∀ (s : Shared) (H : Hp) (C : Addr) (cl : List (Str × Addr)) (fp : List Addr), WG (bk X scope s H C cl fp) tg1 g1 ts1 bd1)
    (ht1 : ∀ (s : Shared) (H : Hp) (C : Addr) (cl : List (Str × Addr)) (fp : List Addr), WC (bk X scope s H C cl fp) ifs1 dt1)
    (he : ∀ (s : Shared) (H : Hp) (C : Addr) (cl : List (Str × Addr)) (fp : List Addr), WE (bk X scope s H C cl fp) elt de) (hs : ∀ x, foldedSetIterable iter X.env x = pure x := by intro _; rfl) (hs1 : ∀ env x, foldedSetIterable iter1 env x = pure x := by intro _ _; rfl) :
    WE X (.ListComp elt [⟨tg, iter, ifs, 0⟩, ⟨tg1, iter1, ifs1, 0⟩] scope pos) (dLc2 di bd dt di1 bd1 dt1 de (own.map (·.2)) vs1 k2) := ⟨fun {s H as G M k kx Q} st hd tk b pins0 sh0 I0 =>
  PE.sem (pe_lc2 (te := semEb X scope elt) (tt := semTb X scope ifs) (tt1 := semTb X scope ifs1) (wi1 := semIb X scope tg1 iter1) hc hN pi_sem ok hv (fun s H C cl fp => (hg s H C cl fp).pg) (fun s H C cl fp => ⟨fun pins sh σ H Q I h => h s _ C cl fp pins sh I⟩)
      (fun s H C cl fp => ⟨fun pins sh σ H Q I h => h s _ C cl fp pins sh I⟩) (fun s H C cl fp => (hg1 s H C cl fp).pg) (fun s H C cl fp => ⟨fun pins sh σ H Q I h => h s _ C cl fp pins sh I⟩) (fun s H C cl fp => ⟨fun pins sh σ H Q I h => h s _ C cl fp pins sh I⟩) hs hs1)
    (lc2_read hi hts hts1 fk (fun {s' H' as' G1 G2 M' d v Q'} => (hg sh0 (fun _ => none) 0 [] []).rd) (fun {s' H' as' G1 G2 M' d v Q'} => (hg1 sh0 (fun _ => none) 0 [] []).rd)
      (fun st' hd' k' s H0 C cl fp => (ht s H0 C cl fp).run st' hd' takesX0 k') (fun st' hd' k' s H0 C cl fp => (ht1 s H0 C cl fp).run st' hd' takesX0 k') (fun st' hd' k' s H0 C cl fp => (hi1 s H0 C cl fp).run st' hd' takesX0 k') (fun st' hd' k' s H0 C cl fp => (he s H0 C cl fp).run st' hd' takesX0 k') st hd tk b) pins0 sh0 I0⟩
theorem w1_asgLc2 {i : Nat} {y : Str} {py spos : Pos} {tg iter tg1 iter1 elt : Expr} {ifs ifs1 : List Expr} {scope : Scope} {own : List (Str × Nat)} {di di1 : DTI} {bd bd1 : DBd} {dt dt1 : DTT} {de : DTE} {ts ts1 vs1 : List Nat} {g g1 : TG} {k2 : List D → Ms → DK → Prop}
    (fk : FinK k2) (hc : X.calm = true) (hN : X.N.Nodup) (hy : X.N[i]? = some y) (hyl : X.env.scope.names.lookup y = some .local)
    (hsw : swapsWith (.ListComp elt [⟨tg, iter, ifs, 0⟩, ⟨tg1, iter1, ifs1, 0⟩] scope pos) (some (.Name y py)) spos.line X.env = pure true) (ok : BlkOk X.N X.env.scope scope own) (hi : WI X tg iter di) (hts : ∀ t ∈ ts, t ∈ own.map (·.2)) (hts1 : ∀ t ∈ ts1, t ∈ vs1) (hv : ∀ i ∈ vs1, i ∈ own.map (·.2))
    (hg : ∀ (s : Shared) (H : Hp) (C : Addr) (cl : List (Str × Addr)) (fp : List Addr), WG (bk X scope s H C cl fp) tg g ts bd)
    (ht : ∀ (s : Shared) (H : Hp) (C : Addr) (cl : List (Str × Addr)) (fp : List Addr), WC (bk X scope s H C cl fp) ifs dt)
    (hi1 : ∀ (s : Shared) (H : Hp) (C : Addr) (cl : List (Str × Addr)) (fp : List Addr), WI (bk X scope s H C cl fp) tg1 iter1 di1)
    (hg1 : ∀ (s : Shared) (H : Hp) (C : Addr) (cl : List (Str × Addr)) (fp : List Addr), WG (bk X scope s H C cl fp) tg1 g1 ts1 bd1)
    (ht1 : ∀ (s : Shared) (H : Hp) (C : Addr) (cl : List (Str × Addr)) (fp : List Addr), WC (bk X scope s H C cl fp) ifs1 dt1)
    (he : ∀ (s : Shared) (H : Hp) (C : Addr) (cl : List (Str × Addr)) (fp : List Addr), WE (bk X scope s H C cl fp) elt de) (hs : ∀ x, foldedSetIterable iter X.env x = pure x := by intro _; rfl) (hs1 : ∀ env x, foldedSetIterable iter1 env x = pure x := by intro _ _; rfl) :
    W1 X (.Assign [.Name y py] (.ListComp elt [⟨tg, iter, ifs, 0⟩, ⟨tg1, iter1, ifs1, 0⟩] scope pos) spos) (dAsg i (dLc2 di bd dt di1 bd1 dt1 de (own.map (·.2)) vs1 k2)) := ⟨fun {s H as G M D DE} st hd tk rd pins0 sh0 I0 =>
  PS.sem (ps_setLc2 (te := semEb X scope elt) (tt := semTb X scope ifs) (tt1 := semTb X scope ifs1) (wi1 := semIb X scope tg1 iter1) hc hN hy hyl hsw pi_sem ok hv (fun s H C cl fp => (hg s H C cl fp).pg) (fun s H C cl fp => ⟨fun pins sh σ H Q I h => h s _ C cl fp pins sh I⟩)
      (fun s H C cl fp => ⟨fun pins sh σ H Q I h => h s _ C cl fp pins sh I⟩) (fun s H C cl fp => (hg1 s H C cl fp).pg) (fun s H C cl fp => ⟨fun pins sh σ H Q I h => h s _ C cl fp pins sh I⟩) (fun s H C cl fp => ⟨fun pins sh σ H Q I h => h s _ C cl fp pins sh I⟩) hs hs1)
    (lc2_read (Q := fun x H1 => gName i x s H1 DE.nx) hi hts hts1 fk (fun {s' H' as' G1 G2 M' d v Q'} => (hg sh0 (fun _ => none) 0 [] []).rd) (fun {s' H' as' G1 G2 M' d v Q'} => (hg1 sh0 (fun _ => none) 0 [] []).rd)
      (fun st' hd' k' s H0 C cl fp => (ht s H0 C cl fp).run st' hd' takesX0 k') (fun st' hd' k' s H0 C cl fp => (ht1 s H0 C cl fp).run st' hd' takesX0 k') (fun st' hd' k' s H0 C cl fp => (hi1 s H0 C cl fp).run st' hd' takesX0 k') (fun st' hd' k' s H0 C cl fp => (he s H0 C cl fp).run st' hd' takesX0 k') st hd (takes_e tk)
      fun v H' as' d' M' n h r q => rd.nx _ H' as' _ M' n ((st.nx n h).set r) q) pins0 sh0 I0⟩
end
end DL

/-! DLq: pairs that are walked (enumerate, zip), lists turned about, an int against an own class. -/
namespace DL
open PySem PySem.Spec PyProof.Rows L2 Evl
open Classical
section
variable {X : Cx} {K : PySem.W.Frag} {as as1 : AS} {M M1 : Ms} {H H1 : Hp} {G : Gm} {s : L2.St} {kx : DX} {k : DK} {Q : VK} {a b c e : Expr} {da db dc : DTE} {ta tb tc : DTT} {pos : Pos}
theorem we_revS {k2 : List D → Ms → DK → Prop} {kk : Nat} {p1 p2 p3 : Pos} (hk : ToL X.K k2) (he : WE X e da) : WE X (.Subscript e (.Slice none none (some (.UnaryOp .USub (.Constant (.int 1) kk p1) p2)) p3) pos) (dRevS k2 da) := ⟨fun {s H as G M k kx Q} st hd tk bk =>
  PE.sem (pe_revL pe_sem) (he.run st hd tk fun v H1 as1 d1 M1 n1 h1 r1 q1 => by
    cases z : lisD M1 d1 with
    | none => rw [z] at q1; exact q1.elim
    | some ds =>
      rw [z] at q1
      obtain ⟨p, vs, rfl, p2, p3⟩ := lis_at h1 z r1
      exact ⟨p, vs, rfl, SqL.of p2, hk h1 (repL_reverse p3) q1 (bk.nx n1)⟩)⟩

/-! ### lists that are walked: what stands at an address, list or cell -/
/-- a list at p, in every state from as, M, H on in which gd holds -/
structure Std (K : PySem.W.Frag) (as : AS) (M : Ms) (H : Hp) (p : Addr) (ds : List D) (gd : Ms → Prop) : Prop where
  at_ : ∀ as' M' H', Nw as M H as' M' H' → Hold K as' M' H' → gd M' → ∃ vs, SqL K H' p vs ∧ repL K (hide as' M' H') ds vs
theorem Std.imp {p : Addr} {ds : List D} {gd gd' : Ms → Prop} (h : Std K as M H p ds gd) (i : ∀ M, gd' M → gd M) : Std K as M H p ds gd' := ⟨fun as' M' H' n hh g => h.at_ as' M' H' n hh (i _ g)⟩
/-- the items of a list, and what must go on to hold -/
def walkD (M : Ms) : D → Option (List D × (Ms → Prop))
  | .lst ds => some (ds, fun _ => True)
  | .rl ds => some (ds, fun _ => True)
  | .cell i => (match M[i]? with
    | some (.ml ds) => some (ds, fun M2 => M2[i]? = some (.ml ds))
    | _ => none)
  | _ => none
theorem walk_std {d : D} {ds : List D} {gd : Ms → Prop} {v : V} (hh : Hold K as M H) (h : walkD M d = some (ds, gd)) (r : repX K as (hide as M H) d v) : ∃ p vs, v = .ref p ∧ SqL K H p vs ∧ repL K (hide as M H) ds vs ∧ Std K as M H p ds gd := by
  cases d with
  | lst xs =>
    cases h
    have r : rep K (hide as M H) (.lst ds) v := r
    rw [rep] at r
    obtain ⟨p, vs, rfl, e2, e3⟩ := r
    exact ⟨p, vs, rfl, hide_l e2, e3, ⟨fun as' M' H' n _ _ => ⟨vs, hide_l (n.ex _ _ e2), repL_mono n.ex _ _ e3⟩⟩⟩
  | rl xs =>
    cases h
    have r : rep K (hide as M H) (.rl ds) v := r
    rw [rep] at r
    obtain ⟨p, vs, rfl, e2, e3⟩ := r
    have un : ∀ {as' : AS} {M' : Ms} {H' : Hp} {ws : List V}, SqL K (hide as' M' H') p ws → SqL K H' p ws := fun q => ex_l hide_ex q
    exact ⟨p, vs, rfl, un e2, e3, ⟨fun as' M' H' n _ _ => ⟨vs, un (ex_l n.ex e2), repL_mono n.ex _ _ e3⟩⟩⟩
  | cell i =>
    unfold walkD at h
    simp only at h
    split at h
    · rename_i xs em
      cases h
      obtain ⟨p, e1, rfl⟩ := r
      have at2 : ∀ as' M' H', Nw as M H as' M' H' → Hold K as' M' H' → M'[i]? = some (.ml ds) → ∃ vs, SqL K H' p vs ∧ repL K (hide as' M' H') ds vs := fun as' M' H' n h2 g => by
        obtain ⟨p2, ho2, y1, y2, ws, rfl, rl2⟩ := h2.cel i _ g (fun z => nomatch z)
        have ep : p2 = p := by
          have := pre_get n.pre e1
          rw [y1] at this
          cases this
          rfl
        subst ep
        exact ⟨ws, SqL.of y2, rl2⟩
      obtain ⟨vs, w1, w2⟩ := at2 as M H ⟨List.prefix_refl _, Ex.refl _⟩ hh em
      exact ⟨p, vs, rfl, w1, w2, ⟨at2⟩⟩
    · cases h
  | _ => cases h
/-- a pair that a walk makes: a new tuple -/
theorem pair_new {T : Addr} {x y : V} {dx dy : D} (hh : Hold K as M H) (hT : H T = none) (r1 : rep K (hide as M H) dx x) (r2 : rep K (hide as M H) dy y) :
    Hold K as M (upd H T (.tup [x, y])) ∧ Nx as M H as M (upd H T (.tup [x, y])) ∧ rep K (hide as M (upd H T (.tup [x, y]))) (.tup [dx, dy]) (.ref T) := by
  obtain ⟨n, h2, r⟩ := new_tup hh hT (repL_cons r1 (repL_one r2))
  exact ⟨h2, n, rep_of_plain r rfl⟩
def enumD (ds : List D) : List D := (List.range ds.length).map fun i => .tup [.int (i : Nat), ds.getD i .non]
theorem walk_enumA {p : Addr} {n : Nat} : Walk (Ite K p) n (fun H => ∃ vs, SqL K H p vs ∧ vs.length = n) (fun i H x H' => ∃ T z, x = .ref T ∧ H T = none ∧ H' = upd H T (.tup [.int (i : Nat), z]) ∧ ∀ vs, SqL K H p vs → vs[i]? = some z) :=
  ⟨fun i H hi ⟨vs, h1, h2⟩ => ⟨vs, vs[i]'(by omega), h1, by simp⟩, fun H ⟨vs, h1, h2⟩ => ⟨vs, h1, by omega⟩, fun i H x H' hi _ y => y⟩
theorem Wk.enum {ds : List D} {p : Addr} {gd : Ms → Prop} (h : Std K as M H p ds gd) : Wk K as M H (Ite K p) (enumD ds) gd := by
  have hl : (enumD ds).length = ds.length := by simp [enumD]
  refine ⟨⟨_, _, by rw [hl]; exact walk_enumA, fun as' M' H' n hh g => ?_, fun i x as' M' H1 H2 hi n hh g y => ?_⟩⟩
  · obtain ⟨vs, w1, w2⟩ := h.at_ as' M' H' n hh g
    exact ⟨vs, w1, (repL_length w2).symm⟩
  · obtain ⟨T, z, rfl, hT, rfl, at_⟩ := y
    obtain ⟨vs, w1, w2⟩ := h.at_ as' M' H1 n hh g
    obtain ⟨d, e1, e2⟩ := repL_get' w2 (at_ vs w1)
    obtain ⟨h2, n2, r2⟩ := pair_new (dx := .int (i : Nat)) hh hT (by rw [rep]) e2
    rw [hl] at hi
    have ed : ds.getD i .non = d := by rw [List.getD_eq_getElem?_getD, e1]; rfl
    exact ⟨.tup [.int (i : Nat), d], by unfold enumD; rw [List.getElem?_map, List.getElem?_range hi, Option.map_some, ed], h2, n2, r2⟩
def iEnumD (da : DTE) : DTI := fun G M k kx => da G M (fun d M' => match walkD M' d with
  | some (ds, gd) => k (enumD ds) gd M'
  | none => False) kx
theorem wi_enum {p pos tpos : Pos} {elts : List Expr} {kk : Nat} (hg : Gl X "enumerate") (hm : X.mg "enumerate" = none) (he : WE X e da) (hs : starEach [e] X.env = [(false, eval e X.env)] := by rfl) :
    WI X (.Tuple elts kk tpos) (.Call (.Name "enumerate" p) [e] [] pos) (iEnumD da) := ⟨fun {s H as G M k kx R} stt hd tk bk => PI.sem (pi_enum hg hm (pa_cons pe_sem pa_nil hs) hs) (he.run stt hd tk fun v H' as' d' M' n hh r q => by
    cases z : walkD M' d' with
    | none => rw [z] at q; exact q.elim
    | some w =>
      obtain ⟨ds, gd⟩ := w
      rw [z] at q
      obtain ⟨p, vs, rfl, w1, w2, w3⟩ := walk_std hh z r
      exact ⟨p, vs, rfl, w1, bk _ H' as' M' _ _ n hh (Wk.enum w3) q⟩)⟩
def zipD (xs ys : List D) : List D := (List.range (min xs.length ys.length)).map fun i => .tup [xs.getD i .non, ys.getD i .non]
theorem walk_zipA {p q : Addr} {n m : Nat} : Walk (Itz K p q) (min n m) (fun H => (∃ vs, SqL K H p vs ∧ vs.length = n) ∧ ∃ ws, SqL K H q ws ∧ ws.length = m)
    (fun i H x H' => ∃ T y z, x = .ref T ∧ H T = none ∧ H' = upd H T (.tup [y, z]) ∧ (∀ vs, SqL K H p vs → vs[i]? = some y) ∧ ∀ vs, SqL K H q vs → vs[i]? = some z) :=
  ⟨fun i H hi ⟨⟨vs, h1, h2⟩, ws, h3, h4⟩ => ⟨vs, ws, vs[i]'(by omega), ws[i]'(by omega), h1, h3, by simp, by simp⟩, fun H ⟨⟨vs, h1, h2⟩, ws, h3, h4⟩ => ⟨vs, ws, h1, h3, by omega⟩, fun i H x H' hi _ y => y⟩
theorem Wk.zip {ds es : List D} {p q : Addr} {gd gd2 : Ms → Prop} (h : Std K as M H p ds gd) (h2 : Std K as M H q es gd2) : Wk K as M H (Itz K p q) (zipD ds es) (fun M2 => gd M2 ∧ gd2 M2) := by
  have hl : (zipD ds es).length = min ds.length es.length := by simp [zipD]
  refine ⟨⟨_, _, by rw [hl]; exact walk_zipA, fun as' M' H' n hh g => ?_, fun i x as' M' H1 H2 hi n hh g y => ?_⟩⟩
  · obtain ⟨vs, w1, w2⟩ := h.at_ as' M' H' n hh g.1
    obtain ⟨ws, w3, w4⟩ := h2.at_ as' M' H' n hh g.2
    exact ⟨⟨vs, w1, (repL_length w2).symm⟩, ws, w3, (repL_length w4).symm⟩
  · obtain ⟨T, y1, z1, rfl, hT, rfl, at1, at2⟩ := y
    obtain ⟨vs, w1, w2⟩ := h.at_ as' M' H1 n hh g.1
    obtain ⟨ws, w3, w4⟩ := h2.at_ as' M' H1 n hh g.2
    obtain ⟨d, e1, e2⟩ := repL_get' w2 (at1 vs w1)
    obtain ⟨d2, e3, e4⟩ := repL_get' w4 (at2 ws w3)
    obtain ⟨h2, n2, r2⟩ := pair_new hh hT e2 e4
    rw [hl] at hi
    have ed : ds.getD i .non = d := by rw [List.getD_eq_getElem?_getD, e1]; rfl
    have ed2 : es.getD i .non = d2 := by rw [List.getD_eq_getElem?_getD, e3]; rfl
    exact ⟨.tup [d, d2], by unfold zipD; rw [List.getElem?_map, List.getElem?_range hi, Option.map_some, ed, ed2], h2, n2, r2⟩
def iZipD (da db : DTE) : DTI := fun G M k kx => da G M (fun d M1 => db G M1 (fun d2 M2 => match walkD M2 d, walkD M2 d2 with
  | some (ds, gd), some (es, gd2) => k (zipD ds es) (fun M => gd M ∧ gd2 M) M2
  | _, _ => False) kx) kx
theorem wi_zip {p pos tpos : Pos} {elts : List Expr} {kk : Nat} (hg : Gl X "zip") (hm : X.mg "zip" = none) (ha : WE X a da) (hb : WE X b db) (hs : starEach [a, b] X.env = (false, eval a X.env) :: starEach [b] X.env := by rfl) (hs2 : starEach [b] X.env = [(false, eval b X.env)] := by rfl)
    (hpl : (backTo pos (starEach [b] X.env)).any (·.1) = false := by rfl) :
    WI X (.Tuple elts kk tpos) (.Call (.Name "zip" p) [a, b] [] pos) (iZipD da db) := ⟨fun {s H as G M k kx R} stt hd tk bk => PI.sem (pi_zip hg hm (pa_cons pe_sem (pa_cons pe_sem pa_nil hs2) hs) hs hpl) (ha.run stt hd tk fun v H' as' d' M' n hh r q => hb.run (stt.nx n hh) q (XW.nx n tk) fun v2 H2 as2 d2 M2 n2 h2 r2 q2 => by
    cases z : walkD M2 d' with
    | none => rw [z] at q2; exact q2.elim
    | some w =>
      obtain ⟨ds, gd⟩ := w
      cases z2 : walkD M2 d2 with
      | none => rw [z, z2] at q2; exact q2.elim
      | some w2 =>
        obtain ⟨es, gd2⟩ := w2
        rw [z, z2] at q2
        obtain ⟨p, vs, rfl, w1, w2, w3⟩ := walk_std h2 z (repX_nx n2 r)
        obtain ⟨p', ws, rfl, w4, w5, w6⟩ := walk_std h2 z2 r2
        exact ⟨p, p', vs, ws, rfl, w1, w4, bk _ H2 as2 M2 _ _ (n.trans n2) h2 (Wk.zip w3 w6) q2⟩)⟩
/-- several targets in a row -/
theorem wgs_cons' {tg : Expr} {tgs : List Expr} {bd : DBd} {bs : List DBd} {ts us : List Nat} {g : TG} {gs : TGs} (h : WG X tg g ts bd) (t : WGs X tgs gs us bs) (hs : (assignEach (tg :: tgs) X.env).map (·.2) = assign tg X.env :: (assignEach tgs X.env).map (·.2) := by rfl) :
    WGs X (tg :: tgs) (gCons g gs) (ts ++ us) (bd :: bs) := wgs_cons h t (pgs_cons h.pg t.pg hs)
theorem wg_tup' {es : List Expr} {kk : Nat} {bs : List DBd} {ts : List Nat} {gs : TGs} (hc : X.calm = true) (h : WGs X es gs ts bs) (hn : (assignEach es X.env).length = bs.length := by rfl) (hst : (assignEach es X.env).findIdx? (·.1) = none := by rfl) :
    WG X (.Tuple es kk pos) (gTup X.K bs.length gs) ts (bTup bs) := wg_tup h (pg_tup hc h.pg hn hst)
/-- a target of an assignment: a, b = e -/
def dAsgT (bd : DBd) (da : DTE) : DTS := fun E G M => da G M (fun d M1 => plain d = true ∧ match bd d G with
  | some G' => E.nx G' M1
  | none => False) (fun x M' => E.ex x G M')
theorem w1_asgT {tg : Expr} {g : TG} {ts : List Nat} {bd : DBd} (hg : WG X tg g ts bd) (he : WE X e da) (hs : swapsWithSole [tg] e pos.line X.env = pure false := by rfl) (hw : swappedStores [tg] e X.env = pure none := by rfl) (h1 : (assignEach [tg] X.env).map (·.2) = [assign tg X.env] := by rfl) : W1 X (.Assign [tg] e pos) (dAsgT bd da) := ⟨fun {s H as G M D DE} stt hd tk rd =>
  PS.sem (ps_asg pe_sem hg.pg hs hw h1) (he.run stt hd (takes_e tk) fun v H1 as1 d1 M1 n1 h1 r1 ⟨pl, q1⟩ => by
    cases z : bd d1 G with
    | none => rw [z] at q1; exact q1.elim
    | some G' =>
      rw [z] at q1
      exact hg.rd (stt.nx n1 h1) (rep_of_plain r1 pl) z fun s' _ st' => rd.nx s' H1 as1 G' M1 n1 st' q1)⟩
end
/-! ### chains of three and more comparisons, as tests -/
structure WCh (X : Cx) (ops : List CmpOp) (rs : List Expr) (d : D → DTT) : Prop where
  run : ∀ {pos : Pos} {v : Value} {x : V} {s : L2.St} {H : Hp} {as : AS} {G : Gm} {M : Ms} {dx : D} {k : Bool → Ms → Prop} {kx : DX} {Q : Bool → Hp → Prop} {pins : List (Addr × Obj)} {sh : Shared}, Stt X.K as G M s H → repX X.K as (hide as M H) dx x → RelV x v → d dx G M k kx →
    Takes X (XWe X.K as M H G kx) → (∀ b H' as' M', Nx as M H as' M' H' → Hold X.K as' M' H' → k b M' → Q b H') → Inv X pins s H sh → wpAny (model X.prog X.w) X.A (testChain pos v ops (evalEach rs X.env)) (TP X pins s Q) X.xe sh
def dCh1 (f : DOp) (db : DTE) : D → DTT := fun dx G M k kx => db G M (fun y M2 => f dx y M2 (fun z M3 => match z with
  | .bl c => k c M3
  | _ => False) kx) kx
def dChN (f : DOp) (db : DTE) (d : D → DTT) : D → DTT := fun dx G M k kx => db G M (fun y M2 => f dx y M2 (fun z M3 => match z with
  | .bl true => d y G M3 k kx
  | .bl false => k false M3
  | _ => False) kx) kx
def dChT (da : DTE) (d : D → DTT) : DTT := fun G M k kx => da G M (fun x M1 => d x G M1 k kx) kx
section
variable {X : Cx} {a b c e : Expr} {da db dc : DTE} {pos : Pos}
theorem ch_one {op : CmpOp} {f : DOp} (ho : OpD X (compareOp op) f) (hb : WE X b db) (he : evalEach [b] X.env = [eval b X.env] := by rfl) : WCh X [op] [b] (dCh1 f db) := ⟨fun {pos v x s H as G M dx k kx Q pins sh} st rx rv hd tk bk I => by
  rw [he]
  refine test_last (thn (hb.run (Q := fun y H2 => ∃ as2 d2 M2, Nx as M H as2 M2 H2 ∧ Hold X.K as2 M2 H2 ∧ repX X.K as2 (hide as2 M2 H2) d2 y ∧ f dx d2 M2 (fun z M3 => match z with
    | .bl c => k c M3
    | _ => False) kx) st hd tk (fun v H' as' d' M' n h r q => ⟨as', d', M', n, h, r, q⟩) pins sh I) fun u s2 ⟨y, H2, I2, r2, as2, d2, M2, n2, h2, ry, q2⟩ => ?_)
  refine thn (ho (Q := fun z H3 => ∃ c, z = .bl c ∧ Q c H3) (st.nx n2 h2) (repX_nx n2 rx) ry q2 (XW.nx n2 tk) (fun v H' as' d' M' n h r q => by
    cases d' with
    | bl c => exact ⟨c, repX_bl.mp r, bk c H' as' M' (n2.trans n) h q⟩
    | _ => exact q.elim) I2 rv r2) fun d s3 ⟨z, H3, I3, r3, c, e, q3⟩ => ?_
  subst e
  cases r3
  exact wpAny_truthy_bool ⟨H3, I3, q3⟩⟩
theorem ch_cons {op op' : CmpOp} {ops : List CmpOp} {r' : Expr} {rs : List Expr} {f : DOp} {d : D → DTT} (ho : OpD X (compareOp op) f) (hb : WE X b db) (hc : WCh X (op' :: ops) (r' :: rs) d) (he : evalEach (b :: r' :: rs) X.env = eval b X.env :: evalEach (r' :: rs) X.env := by rfl) (he2 : evalEach (r' :: rs) X.env = eval r' X.env :: evalEach rs X.env := by rfl) :
    WCh X (op :: op' :: ops) (b :: r' :: rs) (dChN f db d) := ⟨fun {pos v x s H as G M dx k kx Q pins sh} st rx rv hd tk bk I => by
  rw [he, he2]
  refine test_link (thn (hb.run (Q := fun y H2 => ∃ as2 d2 M2, Nx as M H as2 M2 H2 ∧ Hold X.K as2 M2 H2 ∧ repX X.K as2 (hide as2 M2 H2) d2 y ∧ f dx d2 M2 (fun z M3 => match z with
    | .bl true => d d2 G M3 k kx
    | .bl false => k false M3
    | _ => False) kx) st hd tk (fun v H' as' d' M' n h r q => ⟨as', d', M', n, h, r, q⟩) pins sh I) fun u s2 ⟨y, H2, I2, r2, as2, d2, M2, n2, h2, ry, q2⟩ => ?_)
  refine thn (ho (Q := fun z H3 => ∃ as3 d3 M3, Nx as2 M2 H2 as3 M3 H3 ∧ Hold X.K as3 M3 H3 ∧ repX X.K as3 (hide as3 M3 H3) d3 z ∧ (match d3 with
    | .bl true => d d2 G M3 k kx
    | .bl false => k false M3
    | _ => False)) (st.nx n2 h2) (repX_nx n2 rx) ry q2 (XW.nx n2 tk) (fun v H' as' d' M' n h r q => ⟨as', d', M', n, h, r, q⟩) I2 rv r2) fun dd s3 ⟨z, H3, I3, r3, as3, d3, M3, n3, h3, rz, q3⟩ => ?_
  have n13 := n2.trans n3
  cases d3 with
  | bl kk =>
    have e := repX_bl.mp rz
    subst e
    cases r3
    refine wpAny_truthy_bool ?_
    cases kk with
    | true =>
      refine ite_tt ?_
      rw [← he2]
      exact hc.run (st.nx n13 h3) (repX_nx n3 ry) r2 q3 (XW.nx n13 tk) (fun b H' as' M' n h q => bk b H' as' M' (n13.trans n) h q) I3
    | false => exact ite_ff ⟨H3, I3, bk false H3 as3 M3 n13 h3 q3⟩
  | _ => exact q3.elim⟩
theorem wt_chainN {op op' : CmpOp} {ops : List CmpOp} {r r' : Expr} {rs : List Expr} {d : D → DTT} (ha : WE X a da) (hc : WCh X (op :: op' :: ops) (r :: r' :: rs) d) (hm : lastMarks (op :: op' :: ops) (r :: r' :: rs) = false := by with_unfolding_all rfl)
    (he : evalEach (r :: r' :: rs) X.env = eval r X.env :: eval r' X.env :: evalEach rs X.env := by rfl) : WT X (.Compare a (op :: op' :: ops) (r :: r' :: rs) pos) (dChT da d) := ⟨fun {s H as G M k kx Q} st hd tk bk pins sh I => by
  refine isTrue_chain (thn (ha.run (Q := fun x H1 => ∃ as1 d1 M1, Nx as M H as1 M1 H1 ∧ Hold X.K as1 M1 H1 ∧ repX X.K as1 (hide as1 M1 H1) d1 x ∧ d d1 G M1 k kx) st hd tk (fun v H' as' d' M' n h r q => ⟨as', d', M', n, h, r, q⟩) pins sh I) fun v s1 ⟨x, H1, I1, r1, as1, d1, M1, n1, h1, rx, q1⟩ => ?_) hm
  rw [← he]
  exact hc.run (st.nx n1 h1) rx r1 q1 (XW.nx n1 tk) (fun b H' as' M' n h q => bk b H' as' M' (n1.trans n) h q) I1⟩
end
/-! ### i * o, o of an own class -/
section
variable {prog : Program} {w : World} {A : Around} {E : Value → Shared → Prop} {s : Shared} {K : PySem.W.Frag} {x C f dx : Addr}
theorem int_mul_own (i : Int) (tk : Tok) (l dx C : Addr) : Meets (Builtin.«int.__mul__» ⟨[.int i tk, .ref l], []⟩) (fun _ R s => s.heap.get? l = some (PySem.W.instObj C dx) ∧ R (.ok (.ret Value.notImplemented)) s) :=
  .of_wp fun prog w A R s h => by
    obtain ⟨hp, g, d, t, os⟩ := s
    obtain ⟨hl, h⟩ := h
    unfold PySem.W.instObj at hl
    wp_walk
    exact ⟨_, rfl, h⟩
theorem try_int {M : Model} {name : Str} {id : String} {i : Int} {tk : Tok} {o : Value} {Q : Option Value → Shared → Prop} (sl : Slot "int" name id) (hc : wpAny M A (call (.builtin id) [.int i tk, o]) (fun v s' => v = .notImplemented ∧ Q none s') E s) :
    wpAny M A (tryMethod (.int i tk) name o) Q E s := wpAny_tryMethod_declines (typeIs_int s i tk) sl hc
theorem own_int2 {i : Int} {tk : Tok} {od : Option Obj} {Q : Value → Shared → Prop} (X : K.In s.heap) (I : PySem.W.InstAt s.heap x (PySem.W.instObj C dx) C od) (hc : PySem.W.selfFirst K C = true)
    (hs : ∃ g, PySem.W.findIn K (.ref C) "__mul__" = some (some (.ref g)) ∧ PySem.W.isFn K (.ref g) = true) (hr : PySem.W.findIn K (.ref C) "__rmul__" = some (some (.ref f))) (hf : PySem.W.isFn K (.ref f) = true) (hsub : PySem.W.subIn K (.ref C) (.type "int") = some false)
    (h : wpAny (model prog w) A (call (.ref f) [.ref x, .int i tk]) (PySem.W.CmpBack Q) E s) : wpAny (model prog w) A (binaryOp1 "mul" (.int i tk) (.ref x)) (fun v s' => ∃ u, v = some u ∧ Q u s') E s := by
  obtain ⟨cd, hcd, hm⟩ := PySem.W.any_some hc
  obtain ⟨rest, hm⟩ : ∃ rest, cd.mro = .ref C :: rest := by
    cases q : cd.mro with
    | nil => rw [q] at hm; cases hm
    | cons a t => rw [q] at hm; exact ⟨t, by rw [List.head?_cons] at hm; cases (beq_iff_eq.mp hm); rfl⟩
  obtain ⟨g, hs, hg⟩ := hs
  have hs : PySem.W.findIn K (.ref C) (PySem.dunder "mul") = some (some (.ref g)) := hs
  have hr : PySem.W.findIn K (.ref C) (PySem.dunderR "mul") = some (some (.ref f)) := hr
  have sl : Slot "int" (PySem.dunder "mul") "int.__mul__" := PySem.F.slot_int_mul
  unfold binaryOp1
  refine wpAny_bind (wpAny_of_eq (a := Value.type "int") (by rfl) ?_)
  refine wpAny_bind (I.type.here ?_)
  refine wpAny_bind (wpAny_of_eq PySem.F.fills_int_mul ?_)
  refine wpAny_bind (m := if (Value.type "int" == Value.ref C) = true then pure false else fillsNumberSlot (Value.ref C) "mul") ?_
  rw [if_neg (show ¬ ((Value.type "int" == Value.ref C) = true) from Bool.false_ne_true)]
  refine ((PySem.W.fills_K X hcd hm hs).here ?_)
  dsimp only
  rw [if_pos (show (true && true) = true from rfl)]
  refine wpAny_bind ((PySem.W.looks_subIn X hsub).here ?_)
  rw [if_neg Bool.false_ne_true, if_neg Bool.false_ne_true, if_pos (show (true && true && !false) = true from rfl)]
  refine wpAny_bind (wpAny_of_eq (a := false) (by rfl) ?_)
  rw [if_neg Bool.false_ne_true, if_pos rfl]
  refine wpAny_bind (m := tryMethod (.int i tk) (PySem.dunder "mul") (.ref x)) ?_
  refine try_int (M := model prog w) (name := PySem.dunder "mul") (id := "int.__mul__") ?_ ?_
  · exact sl
  refine call_meets sl (typeIs_int s i tk) PySem.F.entry_int_mul (PySem.F.args_int_mul_2 _ _) (int_mul_own i tk x dx C) ?_
  refine ⟨I.at_, ?_⟩
  refine ⟨rfl, ?_⟩
  rw [if_neg Bool.false_ne_true, if_pos (show (true && !false) = true from rfl)]
  refine wpAny_bind (m := tryMethod (.ref x) _ _) ?_
  unfold tryMethod
  refine wpAny_bind (PySem.W.special_fn X I hr (beq_iff_eq.mp hf) (wpAny_mono h (fun v s' hv => ?_) fun _ _ e => e))
  cases v <;> first | exact hv.elim | (refine wpAny_pure ?_; refine wpAny_bind ?_; refine wpAny_rule ?_; exact wpAny_pure ⟨_, rfl, hv⟩)
end
structure OkNR (K : PySem.W.Frag) (C : Str) : Prop where
  sf : PySem.W.selfFirst K (He.ga K C) = true
  mu : ∃ g, PySem.W.findIn K (.ref (He.ga K C)) "__mul__" = some (some (.ref g)) ∧ PySem.W.isFn K (.ref g) = true
  sb : PySem.W.subIn K (.ref (He.ga K C)) (.type "int") = some false
/-- i * o by an own __rmul__ -/
def fOwnIR (t : MTab) : DOp := fun x y M k kx => match x, insD M y with
  | .int i, some (C, _, _) => (match t.lookup C with
    | some (n, df, dn) => ([y, .int i] ++ df).length = n ∧ dn ([y, .int i] ++ df) M k kx
    | none => False)
  | _, _ => False
theorem od_ownIR {X : Cx} {t : MTab} {j : Nat} (F : OkMs X.prog X.w X.K X.mg X.base j "__rmul__" t) (hr : Room j X.A) (hN : AllC (fun C => OkNR X.K C) (t.map (·.1))) : OpD X (binaryOp .Mult) (fOwnIR t) := by
  intro s H as G M x y dx dy k kx Q pins sh u v st rx ry hf tk bk I ru rv
  unfold fOwnIR at hf
  split at hf
  · rename_i i C n1 d1 e1
    obtain ⟨p, dp, vs, rfl, p2, p3, p4⟩ := ins_at st.hold e1 ry
    obtain rfl : v = Value.ref p := rv
    have ex := repX_int.mp rx
    subst ex
    obtain ⟨ti, rfl⟩ := ru
    cases z : t.lookup C with
    | none => rw [z] at hf; exact hf.elim
    | some w =>
      obtain ⟨n, df, dn⟩ := w
      rw [z] at hf
      obtain ⟨hl, hf⟩ := hf
      obtain ⟨f, fd, ps, dsv, dvs, g1, g2, g3, g4, g5, g6⟩ := (F.at_ z).ex
      obtain ⟨mA, O, _⟩ := ins_get I.hok p2
      obtain ⟨od, J, _⟩ := O.look
      obtain ⟨c1, c2, c3⟩ := hN.at_ (lookup_in z)
      unfold binaryOp
      refine wpAny_holding (wpAny_bind ?_)
      refine wpAny_mono (own_int2 (Q := EP X pins s Q) I.kIn J c1 c2 g2.at_ g2.fn c3
        (wpAny_mono (run_lift (P := True) (us := [.ref p, .int i ti]) (vs := [.ref p, .int i]) (ds := [dy, .int i]) (df := df) g6 hr g3 g4 g5 st ⟨.ref p, [.int i], rfl, ry, .int i, [], rfl, repX_int.mpr rfl, rfl⟩ hl hf tk bk I (.cons rfl (.cons ⟨ti, rfl⟩ .nil))) (fun r' s' h => ?_) fun _ _ z => z)) (fun r' s' h => ?_) fun _ _ z => z
      · obtain ⟨v, H', I', rv', q'⟩ := h
        exact rel_back rv' ⟨v, H', I', rv', q'⟩
      · obtain ⟨v, rfl, h⟩ := h
        exact wpAny_pure h
  · exact hf.elim
theorem int_r_shl : typeLookup (.type "int") (PySem.dunderR "lshift") = pure (some (.builtin "int.__rlshift__")) := by
  rw [typeLookup_type, builtinLookup_eq_fast]
  kernel_rfl
theorem int_r_shr : typeLookup (.type "int") (PySem.dunderR "rshift") = pure (some (.builtin "int.__rrshift__")) := by
  rw [typeLookup_type, builtinLookup_eq_fast]
  kernel_rfl
theorem int_r_mod : typeLookup (.type "int") (PySem.dunderR "mod") = pure (some (.builtin "int.__rmod__")) := by
  rw [typeLookup_type, builtinLookup_eq_fast]
  kernel_rfl
theorem int_f_shl : fillsNumberSlot (.type "int") "lshift" = pure true := by
  unfold fillsNumberSlot
  simp only [typeLookup_type, builtinLookup_eq_fast]
  kernel_rfl
theorem int_f_shr : fillsNumberSlot (.type "int") "rshift" = pure true := by
  unfold fillsNumberSlot
  simp only [typeLookup_type, builtinLookup_eq_fast]
  kernel_rfl
theorem int_f_mod : fillsNumberSlot (.type "int") "mod" = pure true := by
  unfold fillsNumberSlot
  simp only [typeLookup_type, builtinLookup_eq_fast]
  kernel_rfl

theorem od_ownMulI {X : Cx} {t : MTab} {j : Nat} (F : OkMs X.prog X.w X.K X.mg X.base j "__mul__" t) (hr : Room j X.A) (hN : AllC (fun C => OkNI X.K C "__rmul__") (t.map (·.1))) : OpD X (binaryOp .Mult) (fOwnI t) :=
  od_ownI (op := .Mult) (mm := "__mul__") (rn := "__rmul__") F hr hN int_fill_mul int_r_mul
theorem od_ownModI {X : Cx} {t : MTab} {j : Nat} (F : OkMs X.prog X.w X.K X.mg X.base j "__mod__" t) (hr : Room j X.A) (hN : AllC (fun C => OkNI X.K C "__rmod__") (t.map (·.1))) : OpD X (binaryOp .Mod) (fOwnI t) :=
  od_ownI (op := .Mod) (mm := "__mod__") (rn := "__rmod__") F hr hN int_f_mod int_r_mod
theorem od_ownShlI {X : Cx} {t : MTab} {j : Nat} (F : OkMs X.prog X.w X.K X.mg X.base j "__lshift__" t) (hr : Room j X.A) (hN : AllC (fun C => OkNI X.K C "__rlshift__") (t.map (·.1))) : OpD X (binaryOp .LShift) (fOwnI t) :=
  od_ownI (op := .LShift) (mm := "__lshift__") (rn := "__rlshift__") F hr hN int_f_shl int_r_shl
theorem od_ownShrI {X : Cx} {t : MTab} {j : Nat} (F : OkMs X.prog X.w X.K X.mg X.base j "__rshift__" t) (hr : Room j X.A) (hN : AllC (fun C => OkNI X.K C "__rrshift__") (t.map (·.1))) : OpD X (binaryOp .RShift) (fOwnI t) :=
  od_ownI (op := .RShift) (mm := "__rshift__") (rn := "__rrshift__") F hr hN int_f_shr int_r_shr
/-! ### facts of the text -/
section
variable {P : Program} {fs : List Fact} {fn : List DD} {K : PySem.W.Frag} {mg : Str → Option Value}
def noBlt : Option Value → Bool
  | some (.builtin _) => false
  | _ => true
def fNI (C rn : Str) : Fact := fun K => PySem.W.selfFirst K (He.ga K C) && ((match PySem.W.findIn K (.ref (He.ga K C)) rn with
  | some r => noBlt r
  | none => false) && decide (PySem.W.subIn K (.type "int") (.ref (He.ga K C)) = some false))
theorem Txt.ni (t : Txt P fs fn K mg) (i : Nat) {C rn : Str} (h : fs[i]? = some (fNI C rn) := by rfl) : OkNI K C rn := by
  have c := t.fact i h
  unfold fNI at c
  rw [Bool.and_eq_true, Bool.and_eq_true] at c
  refine ⟨c.1, ?_, of_decide_eq_true c.2.2⟩
  have c2 := c.2.1
  split at c2
  · rename_i r e
    exact ⟨r, e, fun id z => by rw [z] at c2; cases c2⟩
  · cases c2
def fNR (C : Str) : Fact := fun K => PySem.W.selfFirst K (He.ga K C) && ((match PySem.W.findIn K (.ref (He.ga K C)) "__mul__" with
  | some (some (.ref g)) => PySem.W.isFn K (.ref g)
  | _ => false) && decide (PySem.W.subIn K (.ref (He.ga K C)) (.type "int") = some false))
theorem Txt.nr (t : Txt P fs fn K mg) (i : Nat) {C : Str} (h : fs[i]? = some (fNR C) := by rfl) : OkNR K C := by
  have c := t.fact i h
  unfold fNR at c
  rw [Bool.and_eq_true, Bool.and_eq_true] at c
  refine ⟨c.1, ?_, of_decide_eq_true c.2.2⟩
  have c2 := c.2.1
  split at c2
  · rename_i g e
    exact ⟨g, e, c2⟩
  · cases c2
def fStat (C m : Str) : Fact := fun K => PySem.W.readsIn K (He.ga K C) (.type "type") && (decide (PySem.W.specialIn K (.ref (He.ga K C)) "__getattribute__" = some (some (.builtin "type.__getattribute__"))) && ((match PySem.W.findCls K (.ref (He.ga K C)) (.type "type") m with
  | some (.get g a o c) => decide (g = .builtin "staticmethod.__get__") && (decide (a = .ref (He.ma K (He.ga K C) m)) && (decide (o = .none) && decide (c = .ref (He.ga K C))))
  | _ => false) && (match PySem.W.recIn K (He.ma K (He.ga K C) m) "staticmethod" with
  | some (.ref _ :: _) => true
  | _ => false)))
structure StOk (K : PySem.W.Frag) (C m : Str) : Prop where
  rd : PySem.W.readsIn K (He.ga K C) (.type "type") = true
  ga : PySem.W.specialIn K (.ref (He.ga K C)) "__getattribute__" = some (some (.builtin "type.__getattribute__"))
  fc : PySem.W.findCls K (.ref (He.ga K C)) (.type "type") m = some (.get (.builtin "staticmethod.__get__") (.ref (He.ma K (He.ga K C) m)) .none (.ref (He.ga K C)))
  rc : ∃ g rest, PySem.W.recIn K (He.ma K (He.ga K C) m) "staticmethod" = some (.ref g :: rest)
theorem Txt.stat (t : Txt P fs fn K mg) (i : Nat) {C m : Str} (h : fs[i]? = some (fStat C m) := by rfl) : StOk K C m := by
  have c := t.fact i h
  unfold fStat at c
  rw [Bool.and_eq_true, Bool.and_eq_true, Bool.and_eq_true] at c
  obtain ⟨c1, c2, c3, c4⟩ := c
  refine ⟨c1, of_decide_eq_true c2, ?_, ?_⟩
  · split at c3
    · rename_i g a o c e
      rw [Bool.and_eq_true, Bool.and_eq_true, Bool.and_eq_true] at c3
      rw [e, of_decide_eq_true c3.1, of_decide_eq_true c3.2.1, of_decide_eq_true c3.2.2.1, of_decide_eq_true c3.2.2.2]
    · cases c3
  · split at c4
    · rename_i g rest e
      exact ⟨g, rest, e⟩
    · cases c4
def fPropF (C f : Str) : Fact := fun K => decide (PySem.W.findIn K (.ref (He.ga K C)) f = some (some (.ref (He.ma K (He.ga K C) f)))) && (decide (PySem.W.specialIn K (.ref (He.ma K (He.ga K C) f)) "__get__" = some (some (.builtin "property.__get__"))) &&
  (decide (PySem.W.takesIn K (.ref (He.ma K (He.ga K C) f)) = some true) && (match PySem.W.recIn K (He.ma K (He.ga K C) f) "property" with
  | some (.ref _ :: _) => true
  | _ => false)))
structure PrOk (K : PySem.W.Frag) (C f : Str) : Prop where
  at_ : PySem.W.findIn K (.ref (He.ga K C)) f = some (some (.ref (He.ma K (He.ga K C) f)))
  get : PySem.W.specialIn K (.ref (He.ma K (He.ga K C) f)) "__get__" = some (some (.builtin "property.__get__"))
  tak : PySem.W.takesIn K (.ref (He.ma K (He.ga K C) f)) = some true
  rc : ∃ g rest, PySem.W.recIn K (He.ma K (He.ga K C) f) "property" = some (.ref g :: rest)
theorem Txt.prop (t : Txt P fs fn K mg) (i : Nat) {C f : Str} (h : fs[i]? = some (fPropF C f) := by rfl) : PrOk K C f := by
  have c := t.fact i h
  unfold fPropF at c
  rw [Bool.and_eq_true, Bool.and_eq_true, Bool.and_eq_true] at c
  obtain ⟨c1, c2, c3, c4⟩ := c
  refine ⟨of_decide_eq_true c1, of_decide_eq_true c2, of_decide_eq_true c3, ?_⟩
  split at c4
  · rename_i g rest e
    exact ⟨g, rest, e⟩
  · cases c4
end
section
variable {P : Program} {w : World} {K : PySem.W.Frag} {mg : Str → Option Value} {base : Heap} {x : Str} {d : DD} {fd : FuncData} {N ps : List Str} {k n : Nat} {b : DTS}
theorem via_at {T : String} {a g : Addr} {rest : List Value} (hv : d.via = some T) (ha : He.fAd K d.at_ = a) (hr : PySem.W.recIn K a T = some (.ref g :: rest)) : adD K d = g := by
  unfold adD
  rw [hv]
  simp only
  rw [ha, hr]
theorem okS {C m : Str} {dfs : List D} {ds : List Value} {dvs : List V} (F : FunDD K d fd) (hg : mg C = some (.ref (He.ga K C))) (c : StOk K C m) (hv : d.via = some "staticmethod") (ha : He.fAd K d.at_ = He.ma K (He.ga K C) m) (hb : Binds K fd ps ds) (hvs : Vals dvs ds) (hdf : ∀ H, repL K H dfs dvs)
    (S : FnScope N ps d.scope) (hn : ps.length = n) (body : Bod P w K mg base N d k b) : OkS P w K mg base (k + 1) C m n dfs (dFn n N.length b) := by
  obtain ⟨g, rest, e⟩ := c.rc
  have eg := via_at hv ha e
  have kp := F.kp
  have fo : FnOk P w K mg base (L2.CX P w) (k + 1) (adD K d) fd ps (lift K n (dFn n N.length b)) := fn_ok F S hn body
  rw [eg] at kp fo
  exact ⟨hg, c.rd, c.ga, _, g, fd, ps, ds, dvs, rest, c.fc, e, kp, hb, hvs, hdf, fo⟩
theorem okP {C f : Str} {dfs : List D} {ds : List Value} {dvs : List V} (F : FunDD K d fd) (hc : Cls K (He.ga K C)) (c : PrOk K C f) (hv : d.via = some "property") (ha : He.fAd K d.at_ = He.ma K (He.ga K C) f) (hb : Binds K fd ps ds) (hvs : Vals dvs ds) (hdf : ∀ H, repL K H dfs dvs)
    (S : FnScope N ps d.scope) (hn : ps.length = n) (body : Bod P w K mg base N d k b) : OkP P w K mg base (k + 1) C f n dfs (dFn n N.length b) := by
  obtain ⟨g, rest, e⟩ := c.rc
  have eg := via_at hv ha e
  have fo : FnOk P w K mg base (L2.CX P w) (k + 1) (adD K d) fd ps (lift K n (dFn n N.length b)) := fn_ok F S hn body
  rw [eg] at fo
  exact ⟨⟨_, g, fd, ps, ds, dvs, hc, ⟨c.at_, c.get, c.tak, rest, e⟩, hb, hvs, hdf, fo⟩⟩
end
end DL

/-! DLr: bool(x) of own objects, lists, tuples. -/
namespace DL
open PySem PySem.Spec PyProof.Rows L2 Evl
open Classical
section
variable {prog : Program} {w : World} {A : Around} {E : Value → Shared → Prop} {s : Shared}
/-- bool(x) asks for the truth of x -/
theorem bool_asks (x : Value) : MeetsIn prog w (Builtin.«bool.__new__» ⟨[.type "bool", x], []⟩) (fun A R s => wpAny (model prog w) A.in1 (truthy x) (fun b s' => R (.ok (.ret (.bool b))) s') (fun e s' => R (.error e) s') s) :=
  .of_wp fun A R s h => by
    have f1 := F.conv_sub_bool
    obtain ⟨hp, g, d, tk, os⟩ := s
    unfold Builtin.«bool.__new__»
    repeat (any_goals (first | assumption | wp_step))
    all_goals (refine wpAny_mono h (fun b s' hb => ?_) fun _ _ z => z)
    all_goals (repeat (any_goals (first | assumption | wp_step)))
    all_goals (first | exact ⟨_, rfl, hb⟩ | skip)
theorem call_bool_of {x : Value} {Q : Value → Shared → Prop} (h : wpAny (model prog w) A.in1.in1 (truthy x) (fun b s' => Q (.bool b) s') E s) : wpAny (model prog w) A (call (.type "bool") [x]) Q E s :=
  callType_newIn F.called_bool F.newNe_bool (F.typeCall_bool_1 x) (F.newCall_bool_1 x) (fun obj => F.args_object_init_2 obj x) F.entry_bool_new (bool_asks x) (wpAny_mono h (fun b s' q => ⟨rfl, q⟩) fun _ _ z => z)
end
section
variable {X : Cx} {K : PySem.W.Frag} {as as1 : AS} {M M1 : Ms} {H H1 : Hp} {G : Gm} {s : L2.St} {kx : DX} {k : DK} {Q : VK}
theorem call_boolTp : CallR X (.type "bool") (fun xs H Q => ∃ (a : Addr) (zs : List V), xs = [.ref a] ∧ SqT X.K H a zs ∧ Q (.bl (!zs.isEmpty)) H) := by
  intro pins s σ H xs us Q I r h
  obtain ⟨a, zs, rfl, hq, q⟩ := h
  obtain rfl := Vals.ref1 r
  obtain ⟨its, rv, pl, hz⟩ := I.tuple hq
  have hl := line63
  have hlen := rv.length
  exact call_bool_of (truthy_tuple pl (by simp only [List.size_toArray]; omega) ⟨.bl (!zs.isEmpty), H, I.tok _, by rw [isEmpty_of rv]; rfl, q⟩)
/-- bool(a tuple) -/
def cBoolT : DCl := fun ds M k => match ds with
  | [.tup xs] => k (.bl (!xs.isEmpty)) M
  | _ => False
theorem rd_boolT : RdC K (fun xs H Q => ∃ (a : Addr) (zs : List V), xs = [.ref a] ∧ SqT K H a zs ∧ Q (.bl (!zs.isEmpty)) H) cBoolT := by
  intro H as M ds vs k Q hh rr q bk
  unfold cBoolT at q
  split at q
  · rename_i xs
    obtain ⟨v, rfl, rx⟩ := rXs1 rr
    have rx : rep K (hide as M H) (.tup xs) v := rx
    rw [rep] at rx
    obtain ⟨p, vs, rfl, e2, e3⟩ := rx
    have el : vs.isEmpty = xs.isEmpty := by
      have := repL_length e3
      cases xs <;> cases vs <;> first | rfl | simp at this
    exact ⟨p, vs, rfl, hide_t e2, by rw [el]; exact bk _ H as _ M Nx.refl hh (repX_bl.mpr rfl) q⟩
  · exact q.elim
/-- bool(o) by an own __bool__ -/
def cBoolO (t : MTab) : DCo := fun ds M k kx => match ds with
  | [x] => (match insD M x with
    | some (C, _, _) => (match t.lookup C with
      | some (n, df, dn) => ([x] ++ df).length = n ∧ dn ([x] ++ df) M (fun r M2 => match r with
        | .bl b => k (.bl b) M2
        | _ => False) kx
      | none => False)
    | none => False)
  | _ => False
theorem bool_back (bk : Back K as M H k Q) : Back K as M H (fun r M2 => match r with
    | .bl b => k (.bl b) M2
    | _ => False) (fun v H' => ∃ b, v = .bl b ∧ Q (.bl b) H') := fun v H' as' d' M' n hh r q => by
  cases d' with
  | bl b => exact ⟨b, repX_bl.mp r, bk _ H' as' _ M' n hh (repX_bl.mpr rfl) q⟩
  | _ => exact q.elim
theorem cd_boolO {t : MTab} {j : Nat} (F : OkMs X.prog X.w X.K X.mg X.base j "__bool__" t) (hr : Room (j + 2) X.A) : CallD X (.type "bool") (cBoolO t) := by
  intro s H as G M ds vs k kx Q pins sh us st rx hf tk bk I ru
  unfold cBoolO at hf
  split at hf
  · rename_i x
    obtain ⟨xv, rfl, rx1⟩ := rXs1 rx
    obtain ⟨u, rfl, ru1⟩ := ru.one
    split at hf
    · rename_i C n1 d1 e1
      obtain ⟨p, dp, vs, rfl, p2, p3, p4⟩ := ins_at st.hold e1 rx1
      obtain rfl : u = Value.ref p := ru1
      cases z : t.lookup C with
      | none => rw [z] at hf; exact hf.elim
      | some w =>
        obtain ⟨n, df, dn⟩ := w
        rw [z] at hf
        obtain ⟨hl, hf⟩ := hf
        obtain ⟨f, fd, ps, dsv, dvs, g1, g2, g3, g4, g5, g6⟩ := (F.at_ z).ex
        obtain ⟨ob, od, J⟩ := ins_st I p2
        obtain ⟨m0, hF⟩ := I.fr
        refine call_bool_of (PySem.W.truthy_K hF I.ok.mod.kin J g2.at_ g2.fn ?_)
        refine wpAny_mono (run_liftA (us := [.ref p]) (vs := [.ref p]) (ds := [x]) (df := df) g6 (L2.Sub.in1 (L2.Sub.in1 ⟨hr, rfl⟩)) g3 g4 g5 st ⟨.ref p, [], rfl, rx1, rfl⟩ hl hf tk (bool_back bk) I (.cons rfl .nil)) ?_ (fun _ _ z => z)
        rintro r s' ⟨v, H', I', rv', b, rfl, q'⟩
        cases rv'
        exact ⟨.bl b, H', I', rfl, q'⟩
    · exact hf.elim
  · exact hf.elim
end
end DL

/-! DLs: x += y, both of one own class that has no __iadd__. -/
namespace DL
open PySem PySem.Spec PyProof.Rows L2 Evl
open Classical
def noI (K : PySem.W.Frag) (i : Str) (C : Addr) : Bool := match PySem.W.clsIn K C with
  | some cd => cd.mro.all fun c => (match PySem.W.findIn K c i with
    | some none => true
    | _ => false)
  | none => false
theorem anyI {M : Model} {h : Heap} {K : PySem.W.Frag} {i : Str} {g : Value → Option Value → Sem Bool} (X : K.In h) : ∀ {l : List Value}, (l.all fun c => (match PySem.W.findIn K c i with
    | some none => true
    | _ => false)) = true → (∀ c, g c none = pure false) → PySem.W.Looks M h (l.anyM fun c => typeLookup c i >>= fun x => g c x) false
  | [], _, _ => .now
  | c :: r, e, hg => by
    obtain ⟨a, b⟩ := Bool.and_eq_true_iff.mp (List.all_cons ▸ e)
    split at a
    · rename_i z
      intro A Q E s k q
      rw [List.anyM_cons]
      refine wpAny_bind (wpAny_bind (PySem.W.looks_findIn X z A _ E s k ?_))
      rw [hg]
      refine wpAny_pure ?_
      rw [if_neg Bool.false_ne_true]
      exact anyI X b hg A Q E s k q
    · cases a
theorem fillsI {M : Model} {h : Heap} {K : PySem.W.Frag} {nm : String} {add : Bool} {C : Addr} (X : K.In h) (hn : noI K (dunderI nm) C = true) : PySem.W.Looks M h (fillsInplaceSlot (.ref C) nm add) false := by
  unfold noI at hn
  split at hn
  · rename_i cd hc
    intro A Q E s k q
    unfold fillsInplaceSlot
    refine wpAny_bind ((PySem.W.looks_clsIn X hc).andThen (f := fun cd => pure cd.mro) .now A _ E s k ?_)
    exact anyI X hn (fun c => rfl) A Q E s k q
  · cases hn
structure OkIA (K : PySem.W.Frag) (C : Str) : Prop where
  sf : PySem.W.selfFirst K (He.ga K C) = true
  ia : noI K "__iadd__" (He.ga K C) = true
theorem iop_K {prog : Program} {w : World} {A : Around} {E : Value → Shared → Prop} {s : Shared} {K : PySem.W.Frag} {x C L f : Addr} {h₀ : Heap} {m : Str → Option Value} {ox : Obj} {od : Option Obj} {op : Operator} {b : Value} {Q : Value → Shared → Prop} (F : Fr h₀ L s.heap m) (X₀ : K.In h₀) (I : PySem.W.InstAt s.heap x ox C od) (hb : PySem.W.Looks (model prog w) s.heap (typeOf b) (.ref C)) (hc : PySem.W.selfFirst K C = true) (hn : noI K (dunderI op.info.2) C = true)
    (hs : PySem.W.findIn K (.ref C) (PySem.dunder op.info.2) = some (some (.ref f))) (hf : PySem.W.isFn K (.ref f) = true)
    (h : wpAny (model prog w) A (call (.ref f) [.ref x, b]) (PySem.W.CmpBack Q) E s) : wpAny (model prog w) A (inplaceOp op (.ref x) b) Q E s := by
  have X := X₀.keeps F.keep
  obtain ⟨cd, hcd, hm⟩ := PySem.W.any_some hc
  obtain ⟨rest, hm⟩ : ∃ rest, cd.mro = .ref C :: rest := by
    cases q : cd.mro with
    | nil => rw [q] at hm; cases hm
    | cons a r => rw [q] at hm; exact ⟨r, by rw [List.head?_cons] at hm; cases (beq_iff_eq.mp hm); rfl⟩
  unfold inplaceOp
  refine wpAny_holding (wpAny_bind (I.type.here (wpAny_bind ((fillsI X hn).here ?_))))
  rw [if_neg Bool.false_ne_true]
  refine wpAny_bind ?_
  unfold binaryOp1
  refine wpAny_bind (I.type.here (wpAny_bind (hb.here (wpAny_bind ((PySem.W.fills_K X hcd hm hs).here ?_)))))
  simp only [beq_self_eq_true, if_true]
  refine wpAny_bind (wpAny_pure ?_)
  simp only [Bool.and_false, Bool.false_eq_true, if_false, Bool.false_and]
  refine wpAny_bind (wpAny_pure ?_)
  simp only [Bool.false_eq_true, if_false]
  refine wpAny_bind (m := tryMethod (.ref x) _ b) ?_
  unfold tryMethod
  refine wpAny_bind (PySem.W.special_fn X I hs (beq_iff_eq.mp hf) (wpAny_mono h (fun v s' hv => ?_) fun _ _ e => e))
  cases v <;> first | exact hv.elim | exact wpAny_pure (wpAny_pure (wpAny_pure hv))
theorem od_ownIA {X : Cx} {t : MTab} {j : Nat} (F : OkMs X.prog X.w X.K X.mg X.base j "__add__" t) (hr : Room j X.A) (hN : AllC (fun C => OkIA X.K C) (t.map (·.1))) : OpD X (inplaceOp .Add) (fOwn t) := by
  intro s H as G M x y dx dy k kx Q pins sh u v st rx ry hf tk bk I ru rv
  unfold fOwn at hf
  split at hf
  · rename_i C n1 d1 C' n2 d2 e1 e2
    obtain ⟨rfl, hf⟩ := hf
    obtain ⟨p, dp, vs, rfl, p2, p3, p4⟩ := ins_at st.hold e1 rx
    obtain ⟨q, dq, ws, rfl, q2, q3, q4⟩ := ins_at st.hold e2 ry
    obtain rfl : u = Value.ref p := ru
    obtain rfl : v = Value.ref q := rv
    cases z : t.lookup C' with
    | none => rw [z] at hf; exact hf.elim
    | some w =>
      obtain ⟨n, df, dn⟩ := w
      rw [z] at hf
      obtain ⟨hl, hf⟩ := hf
      obtain ⟨f, fd, ps, dsv, dvs, g1, g2, g3, g4, g5, g6⟩ := (F.at_ z).ex
      obtain ⟨ob, od, J⟩ := ins_st I p2
      obtain ⟨ob2, od2, J2⟩ := ins_st I q2
      obtain ⟨m0, hF⟩ := I.fr
      obtain ⟨c1, c2⟩ := hN.at_ (lookup_in z)
      refine iop_K (op := .Add) hF I.ok.mod.kin J J2.type c1 c2 g2.at_ g2.fn ?_
      refine wpAny_mono (run_lift (P := True) (us := [.ref p, .ref q]) (vs := [.ref p, .ref q]) (ds := [dx, dy]) (df := df) g6 hr g3 g4 g5 st ⟨.ref p, [.ref q], rfl, rx, .ref q, [], rfl, ry, rfl⟩ hl hf tk bk I (.cons rfl (.cons rfl .nil))) ?_ (fun _ _ z => z)
      rintro r s' ⟨v, H', I', rv', q'⟩
      exact rel_back rv' ⟨v, H', I', rv', q'⟩
  · exact hf.elim
def fIA (C : Str) : Fact := fun K => PySem.W.selfFirst K (He.ga K C) && noI K "__iadd__" (He.ga K C)
theorem Txt.ia {P : Program} {fs : List Fact} {fn : List DD} {K : PySem.W.Frag} {mg : Str → Option Value} (t : Txt P fs fn K mg) (i : Nat) {C : Str} (h : fs[i]? = some (fIA C) := by rfl) : OkIA K C := by
  have c := t.fact i h
  unfold fIA at c
  rw [Bool.and_eq_true] at c
  exact ⟨c.1, c.2⟩
theorem w1_augO {X : Cx} {e : Expr} {da : DTE} {pos : Pos} {i : Nat} {x : Str} {pos' : Pos} {op : Operator} {f : DOp} (hN : X.N.Nodup) (hi : X.N[i]? = some x) (hx : Loc X.env.scope x) (he : WE X e da) (ho : OpD X (inplaceOp op) f) (hf : X.fn x = true ∨ X.env.scope.names.lookup x = some .local := by first | exact .inl rfl | exact .inr rfl | assumption) :
    W1 X (.AugAssign (.Name x pos') op e pos) (dAugI f i da) := ⟨fun {s H as G M D DE} stt hd tk rd => by
  intro pins sh I
  unfold dAugI at hd
  split at hd
  · rename_i x' ex
    obtain ⟨v, e1, e2⟩ := stt.slots.2 i x' ex
    obtain ⟨m, hn, hl⟩ := I.loc
    have vis : Vis X.env.scope x := by rcases hx with k | k; exact .inl k; exact .inr (.inl k)
    obtain ⟨u, r, l⟩ := hl i x v hi e1 vis
    refine wpAny_AugAssign_Name ?_
    have go : wpAny (model X.prog X.w) X.A (eval e X.env) (fun w s₂ => wpAny (model X.prog X.w) X.A (inplaceOp op u w) (fun r s₃ => wpAny (model X.prog X.w) X.A (storeName X.env x r) (fun _ => SP X pins DE .next) X.xe s₃) X.xe s₂) X.xe sh := by
      refine thn (he.run (Q := fun y H1 => ∃ as1 d1 M1, Nx as M H as1 M1 H1 ∧ Hold X.K as1 M1 H1 ∧ repX X.K as1 (hide as1 M1 H1) d1 y ∧ f x' d1 M1 (fun d M2 => D.nx (G.set i (some d)) M2) (fun z M' => D.ex z G M')) stt hd (takes_e tk) (fun v H' as' d' M' n h r q => ⟨as', d', M', n, h, r, q⟩) pins sh I) fun w s1 ⟨y, H1, I1, r1, as1, d1, M1, n1, h1, ry, q1⟩ => ?_
      refine thn (ho (Q := fun z H2 => ∃ as2 d2 M2, Nx as1 M1 H1 as2 M2 H2 ∧ Hold X.K as2 M2 H2 ∧ repX X.K as2 (hide as2 M2 H2) d2 z ∧ D.nx (G.set i (some d2)) M2) (stt.nx n1 h1) (repX_nx n1 e2) ry q1 (takes_e (XW.nx n1 tk)) (fun v H' as' d' M' n h r q => ⟨as', d', M', n, h, r, q⟩) I1 r r1) fun z s2 ⟨zv, H2, I2, r2, as2, d2, M2, n2, h2, rz, q2⟩ => ?_
      exact store_ok I2 hN hi hx r2 (fun s3 I3 => ⟨_, H2, I3, rd.nx _ H2 as2 _ M2 (n1.trans n2) ((stt.nx (n1.trans n2) h2).set rz) q2⟩) hf
    rcases l with ⟨hk, hm⟩ | ⟨hk, c, hc, hcell⟩
    · exact wpAny_loadName_local I.ok.kind hk hn hm go
    · rcases hk with hk | hk
      · exact wpAny_loadName_cell I.ok.kind hk hc hcell go
      · rcases hx with k | k
        · have : X.env.scope.names.lookup x = some .free := hk
          rw [k] at this; cases this
        · have : X.env.scope.names.lookup x = some .free := hk
          rw [k] at this; cases this
  · exact hd.elim⟩
end DL

/-! DLt: enumerate over tuples. -/
namespace DL
open PySem PySem.Spec PyProof.Rows L2 Evl
open Classical
theorem meets_enum1 {v : Value} {o : Obj} {H : Heap → Prop} (B : Begins v o H) :
    Meets (Builtin.«enumerate.__new__» ⟨[.type "enumerate", v], []⟩) (fun _ R s => H s.heap ∧
      R (.ok (.ret (.ref (s.heap.push o).objs.size))) { s with heap := (s.heap.push o).push { cls := .type "enumerate", data := .fields #[.none, .bool false, .ref s.heap.objs.size, rawInt 0, .none, .none] } }) :=
  .of_wp fun prog w A R s h => by
    obtain ⟨hp, g, d, tk, os⟩ := s; obtain ⟨h1, h⟩ := h
    have hsub := sub_enumerate
    have q1 : ∀ {A' : Around} {E : Value → Shared → Prop} {Q : Value → Shared → Prop}, Q (.ref hp.objs.size) ⟨hp.push o, g, d, tk, os⟩ → wpAny (model prog w) A' (pyIter v) Q E ⟨hp, g, d, tk, os⟩ :=
      fun q => B.iter prog w _ _ ⟨hp, g, d, tk, os⟩ _ h1 q
    wp_walk
    refine wpAny_stack_any fun st => wpAny_pure ?_
    split
    · rename_i c _ _ _ _ _
      cases (c == Value.type "enumerate")
      · wp_walk using q1
        exact ⟨_, rfl, h⟩
      · wp_walk using q1
        exact ⟨_, rfl, h⟩
    · wp_walk using q1
      exact ⟨_, rfl, h⟩
section
variable {prog : Program} {w : World} {A : Around} {E : Value → Shared → Prop} {s : Shared}
theorem call_enum1 {v : Value} {o : Obj} {H : Heap → Prop} {Q : Value → Shared → Prop} (B : Begins v o H) (h1 : H s.heap)
    (h : ∀ h', IsEnum h' (s.heap.objs.size + 1) s.heap.objs.size 0 .none → h'.get? s.heap.objs.size = some o → h'.objs.size = s.heap.objs.size + 2 →
      (∀ b o, s.heap.get? b = some o → h'.get? b = some o) → Q (.ref (s.heap.objs.size + 1)) { s with heap := h' }) :
    wpAny (model prog w) A (call (.type "enumerate") [v]) Q E s := by
  refine callType_new F.called_enumerate (by decide) (F.typeCall_enumerate_1 _) (F.newCall_enumerate_1 _) (fun obj => F.args_object_init_2 obj _) F.entry_enumerate_new
    (meets_enum1 B) ⟨h1, ?_⟩
  have hz : (s.heap.push o).objs.size = s.heap.objs.size + 1 := Heap.size_push ..
  show _ ∧ _
  rw [hz]
  have he : IsEnum ((s.heap.push o).push { cls := .type "enumerate", data := .fields #[.none, .bool false, .ref s.heap.objs.size, rawInt 0, .none, .none] }) (s.heap.objs.size + 1) s.heap.objs.size 0 .none := by
    have := Heap.get?_push_size (s.heap.push o) (o := { cls := .type "enumerate", data := .fields #[.none, .bool false, .ref s.heap.objs.size, rawInt 0, .none, .none] }) rfl
    rw [hz] at this; exact this
  refine ⟨⟨_, he, rfl⟩, h _ he (Heap.get?_push_of_some _ (Heap.get?_push_size _ B.free)) (by rw [Heap.size_push, hz]) fun b o x => Heap.get?_push_of_some _ (Heap.get?_push_of_some _ x)⟩
end
/-- the tuple at a, each item in a new pair -/
def Itte (K : PySem.W.Frag) (a : Addr) : It :=
  ⟨fun i H => ∃ (xs : List V) (x : V), SqT K H a xs ∧ xs[i]? = some x, fun i H v H' => ∃ T x, v = .ref T ∧ H T = none ∧ H' = upd H T (.tup [.int (i : Nat), x]) ∧ ∀ xs, SqT K H a xs → xs[i]? = some x, fun i H => ∃ xs : List V, SqT K H a xs ∧ xs.length ≤ i⟩
theorem turn_enumT {P : Program} {w : World} {K : PySem.W.Frag} {elts : List Expr} {kk : Nat} {tpos : Pos} (a e it : Addr) :
    Turn P w K (.Tuple elts kk tpos) (Itte K a) [e, it] e (fun i h => (∃ old, IsEnum h e it ((i : Nat) : Int) old) ∧ h.IsTupleIter it a i ∧ e ≠ it ∧ a ≠ it ∧ a ≠ e) where
  mem := by simp
  obj := fun i h st b hb => by
    obtain ⟨⟨old, he⟩, ⟨o, ho, hc, hd⟩, _⟩ := st
    have e' : b = e ∨ b = it := by simpa using hb
    rcases e' with z | z
    · rw [z]; exact ⟨_, he, fun v q => nomatch q⟩
    · rw [z]; exact ⟨o, ho, fun v q => by rw [hd] at q; cases q⟩
  keep := fun i h h' st k => let ⟨⟨old, he⟩, hi, hne⟩ := st; ⟨⟨old, k e (by simp) _ he⟩, hi.at fun o q => k it (by simp) o q, hne⟩
  item := by
    intro X hP hw hK hc i pins s σ H E I hf st hg
    subst hP hw hK
    obtain ⟨⟨old, he⟩, hit, hne, hai, hae⟩ := st
    obtain ⟨xs, x, hq, hx⟩ := hg
    obtain ⟨its, rv, p, hz⟩ := I.tuple hq
    obtain ⟨u, hu, ru⟩ := rv.get hx
    have hel : e < s.heap.objs.size := Heap.lt_size he
    have hil : it < s.heap.objs.size := by obtain ⟨_, q, _⟩ := hit; exact Heap.lt_size q
    have hpt : s.heap.IsTuple a its.toArray := p
    have hlt : i < its.toArray.size := by
      have := (List.getElem?_eq_some_iff.mp hu).1
      simpa using this
    refine wpAny_pyNext_enum_itemD (Draws.tuple (prog := X.prog) (w := X.w) (A := X.A.in1) (show X.A.in1.handled = none from I.ok.hd hc) it a hai its.toArray) he ⟨hit, hpt⟩ hlt hne (by simp; exact ⟨hne, Ne.symm hae⟩) fun x' h' tk hPx ho hst hT hsz hk => ?_
    obtain rfl : x' = u := by
      have e1 : its.toArray[i]? = some x' := hPx
      rw [List.getElem?_toArray] at e1
      rw [hu] at e1
      exact (Option.some.inj e1).symm
    have hit' := hst.1
    refine ⟨_, rfl, wpAny_letOwnedTupleGo_enum (s := { s with heap := h', toks := tk + 1 }) ho fun h'' he' sb => ?_⟩
    have hT2 : h''.get? s.heap.objs.size = some { cls := .type "tuple", data := .seq #[.int i tk, x'] } := (sb.2 _ (Nat.ne_of_gt hel)).trans hT
    have new : ObjOk X.prog X.w (upd H s.heap.objs.size (.tup [.int (i : Nat), x])) h'' s.heap.objs.size (.tup [.int (i : Nat), x]) :=
      ⟨by show 2 ≤ sizeLine; decide, [.int i tk, x'], .cons ⟨_, rfl⟩ (.cons ru .nil), ⟨_, hT2, rfl, _, rfl⟩⟩
    have I1 : Inv X pins σ (upd H s.heap.objs.size (.tup [.int (i : Nat), x])) { s with heap := h'', toks := tk + 1 } :=
      I.turnedNew (ch := [e, it]) (fun b ob hb q => (sb.2 b (fun z => hb (by simp [z]))).trans (hk b ob (fun z => hb (by simp [z])) (fun z => hb (by simp [z])) q)) hf (Nat.le_refl _) new
    refine ⟨.ref s.heap.objs.size, _, I1, rfl, ⟨_, x, rfl, I.hok.fresh (Nat.le_refl _), rfl, fun ys hy => by rw [I.tuple_inj hy hq]; exact hx⟩, ⟨⟨x', ?_⟩, hit'.at fun o q => (sb.2 it (Ne.symm hne)).trans q, hne, hai, hae⟩, fun b hb => ?_⟩
    · have e1 : ((i + 1 : Nat) : Int) = (i : Int) + 1 := by omega
      rw [e1]; exact he'
    · have hb' : b < s.heap.objs.size := by
        have e' : b = e ∨ b = it := by simpa using hb
        rcases e' with z | z
        · rw [z]; exact hel
        · rw [z]; exact hil
      rw [upd_ne (Nat.ne_of_lt hb')]
      exact (hf b hb).1
  done := by
    intro X hP hw hK hc i pins s σ H E I hf st hg
    subst hP hw hK
    obtain ⟨⟨old, he⟩, hit, hne, hai, hae⟩ := st
    obtain ⟨xs, hq, hx⟩ := hg
    obtain ⟨its, rv, p, hz⟩ := I.tuple hq
    obtain ⟨f0, f1, f2, f3, f4, f5⟩ := hf it (by simp)
    have hl := rv.length
    have hpt : s.heap.IsTuple a its.toArray := p
    have hT : s.TypeIs (.ref e) "enumerate" := ⟨_, he, rfl⟩
    unfold pyNext
    refine wpAny_bind (wpAny_attempt (wpAny_callSpecial?_slot (name := Str.ofString "__next__") hT F.slot_enumerate_next
      (wpAny_call_entry F.slot_enumerate_next hT F.entry_enumerate_next ?_ (F.args_enumerate_next_1 _))))
    show wpAny _ _ (field (.ref e) 2 >>= _) _ _ _
    refine wpAny_bind (wpAny_field he rfl (x := .ref it) rfl ?_)
    refine wpAny_bind (wpAny_nextOf_tuple_end (I.ok.hd hc) hit hpt (by simp; omega) fun h' x he' hx' => ?_)
    obtain ⟨o, ho, hcc⟩ := hx'
    refine wpAny_bind (wpAny_isInstance (T := "StopIteration") (b := true) ⟨o, ho, hcc⟩ isSubtype_stop ?_)
    exact wpAny_pure ⟨rfl, I.turned (t' := s.toks) (fun b o hb q => he' b o hb q) f0 f1 f3 f4 f5⟩
  self := fun A i s Q E st h => let ⟨⟨_, he⟩, _⟩ := st; wpAny_pyIter_enum he h
def iEnumU (K : PySem.W.Frag) (ta : TA) : TI := fun σ H R => ta σ H fun vs H1 => ∃ a, vs = [.ref a] ∧ ((∃ xs, SqL K H1 a xs ∧ R (Ite K a) H1) ∨ ∃ xs, SqT K H1 a xs ∧ R (Itte K a) H1)
theorem pi_enumU {X : Cx} {e : Expr} {ta : TA} {p pos tpos : Pos} {elts : List Expr} {kk : Nat} (hg : Gl X "enumerate") (hm : X.mg "enumerate" = none) (ha : PA X [e] ta) (hs : starEach [e] X.env = [(false, eval e X.env)] := by rfl) :
    PI X (.Tuple elts kk tpos) (.Call (.Name "enumerate" p) [e] [] pos) (iEnumU X.K ta) := by
  refine ⟨fun pins s σ H R I h => ?_⟩
  refine Call_ (ld_blt I hg hm boot_enumerate (PyProof.Rows.callWith_type1 (thn (ha.run pos pins s σ H _ I h) fun us s1 ⟨vs, H1, I1, r1, q1⟩ => ?_) hs rfl))
  obtain ⟨a, ex, hh⟩ := q1
  subst ex
  cases r1 with
  | cons r rr =>
    cases rr
    cases r
    have fr : ∀ b ∈ [s1.heap.objs.size + 1, s1.heap.objs.size], s1.heap.objs.size ≤ b := fun b hb => by
      have e' : b = s1.heap.objs.size + 1 ∨ b = s1.heap.objs.size := by simpa using hb
      rcases e' with z | z
      · rw [z]; exact Nat.le_add_right _ _
      · rw [z]; exact Nat.le_refl _
    rcases hh with ⟨xs, hq, q⟩ | ⟨xs, hq, q⟩
    · obtain ⟨its, rv, p', hz⟩ := I1.list hq
      refine call_enumerate_list p'.isList fun h' he hit hsz hk => wpAny_pyIter_enum he ?_
      have I2 : Inv X pins σ H1 { s1 with heap := h' } := I1.kept (t' := s1.toks) hk
      refine ⟨s1.heap.objs.size + 1, [s1.heap.objs.size + 1, s1.heap.objs.size], _, _, H1, rfl, I2, turn_enum a (s1.heap.objs.size + 1) s1.heap.objs.size, ⟨⟨.none, he⟩, hit, Nat.succ_ne_self _⟩, fun b hb => ?_, q⟩
      exact I1.fpOk (fr b hb) (I1.hok.fresh (fr b hb))
    · obtain ⟨its, rv, p', hz⟩ := I1.tuple hq
      have hpt : s1.heap.IsTuple a its.toArray := p'
      have hal : a < s1.heap.objs.size := by
        obtain ⟨o, ho, _⟩ := hpt
        exact Heap.lt_size ho
      refine call_enum1 (begins_tuple a its.toArray) hpt fun h' he hit hsz hk => wpAny_pyIter_enum he ?_
      have I2 : Inv X pins σ H1 { s1 with heap := h' } := I1.kept (t' := s1.toks) hk
      refine ⟨s1.heap.objs.size + 1, [s1.heap.objs.size + 1, s1.heap.objs.size], _, _, H1, rfl, I2, turn_enumT a (s1.heap.objs.size + 1) s1.heap.objs.size, ⟨⟨.none, he⟩, ⟨_, hit, rfl, rfl⟩, Nat.succ_ne_self _, Nat.ne_of_lt hal, Nat.ne_of_lt (Nat.lt_succ_of_lt hal)⟩, fun b hb => ?_, q⟩
      exact I1.fpOk (fr b hb) (I1.hok.fresh (fr b hb))
section
variable {X : Cx} {K : PySem.W.Frag} {as as1 : AS} {M M1 : Ms} {H H1 : Hp} {G : Gm} {s : L2.St} {kx : DX} {k : DK} {Q : VK} {a b c e : Expr} {da db dc : DTE} {ta tb tc : DTT} {pos : Pos}
theorem walk_enumTA {p : Addr} {n : Nat} : Walk (Itte K p) n (fun H => ∃ vs, SqT K H p vs ∧ vs.length = n) (fun i H x H' => ∃ T z, x = .ref T ∧ H T = none ∧ H' = upd H T (.tup [.int (i : Nat), z]) ∧ ∀ vs, SqT K H p vs → vs[i]? = some z) :=
  ⟨fun i H hi ⟨vs, h1, h2⟩ => ⟨vs, vs[i]'(by omega), h1, by simp⟩, fun H ⟨vs, h1, h2⟩ => ⟨vs, h1, by omega⟩, fun i H x H' hi _ y => y⟩
theorem Wk.enumT {ds : List D} {p : Addr} {vs : List V} (hq : SqT K (hide as M H) p vs) (hr : repL K (hide as M H) ds vs) : Wk K as M H (Itte K p) (enumD ds) (fun _ => True) := by
  have hl : (enumD ds).length = ds.length := by simp [enumD]
  have at0 : ∀ as' M' H', Nw as M H as' M' H' → SqT K H' p vs ∧ repL K (hide as' M' H') ds vs := fun as' M' H' n => ⟨hide_t (ex_t n.ex hq), repL_mono n.ex _ _ hr⟩
  refine ⟨⟨_, _, by rw [hl]; exact walk_enumTA, fun as' M' H' n hh g => ?_, fun i x as' M' H1 H2 hi n hh g y => ?_⟩⟩
  · obtain ⟨w1, w2⟩ := at0 as' M' H' n
    exact ⟨vs, w1, (repL_length w2).symm⟩
  · obtain ⟨T, z, rfl, hT, rfl, at_⟩ := y
    obtain ⟨w1, w2⟩ := at0 as' M' H1 n
    obtain ⟨d, e1, e2⟩ := repL_get' w2 (at_ vs w1)
    obtain ⟨h2, n2, r2⟩ := pair_new (dx := .int (i : Nat)) hh hT (by rw [rep]) e2
    rw [hl] at hi
    have ed : ds.getD i .non = d := by rw [List.getD_eq_getElem?_getD, e1]; rfl
    exact ⟨.tup [.int (i : Nat), d], by unfold enumD; rw [List.getElem?_map, List.getElem?_range hi, Option.map_some, ed], h2, n2, r2⟩
/-- enumerate over a list or a tuple -/
def iEnumT (da : DTE) : DTI := fun G M k kx => da G M (fun d M' => match d with
  | .tup ds => k (enumD ds) (fun _ => True) M'
  | d => (match walkD M' d with
    | some (ds, gd) => k (enumD ds) gd M'
    | none => False)) kx
theorem wi_enumT {p pos tpos : Pos} {elts : List Expr} {kk : Nat} (hg : Gl X "enumerate") (hm : X.mg "enumerate" = none) (he : WE X e da) (hs : starEach [e] X.env = [(false, eval e X.env)] := by rfl) :
    WI X (.Tuple elts kk tpos) (.Call (.Name "enumerate" p) [e] [] pos) (iEnumT da) := ⟨fun {s H as G M k kx R} stt hd tk bk => PI.sem (pi_enumU hg hm (pa_cons pe_sem pa_nil hs) hs) (he.run stt hd tk fun v H' as' d' M' n hh r q => by
    have lis : (match walkD M' d' with
      | some (ds, gd) => k (enumD ds) gd M'
      | none => False) → ∃ a, [v] = [.ref a] ∧ ((∃ xs, SqL X.K H' a xs ∧ R (Ite X.K a) H') ∨ ∃ xs, SqT X.K H' a xs ∧ R (Itte X.K a) H') := by
      intro q
      cases z : walkD M' d' with
      | none => rw [z] at q; exact q.elim
      | some w =>
        obtain ⟨ds, gd⟩ := w
        rw [z] at q
        obtain ⟨p, vs, rfl, w1, w2, w3⟩ := walk_std hh z r
        exact ⟨p, rfl, Or.inl ⟨vs, w1, bk _ H' as' M' _ _ n hh (Wk.enum w3) q⟩⟩
    cases d' with
    | tup ds =>
      have r2 : rep X.K (hide as' M' H') (.tup ds) v := r
      rw [rep] at r2
      obtain ⟨p, vs, rfl, e2, e3⟩ := r2
      exact ⟨p, rfl, Or.inr ⟨vs, hide_t e2, bk _ H' as' M' _ _ n hh (Wk.enumT e2 e3) q⟩⟩
    | _ => exact lis q)⟩
end
/-- a def with defaults, all of whose arguments are given -/
theorem bindsF {K : PySem.W.Frag} {x : Str} {qual : Str} {params : Arguments} {body : List Stmt} {scope : Scope} {dvs : List V} {kws : List (Str × V)} {f : Addr} {fd : FuncData} {ps : List Str} (F : FunD K x qual params body scope dvs kws f fd) (n m : Nat) (hd : dvs ≠ []) (hm : dvs.length = m) (hn : n = ps.length)
    (h : ∀ (T : Addr) (kV doc pm : Value) (an : Option Addr) (cdv ct : Value) (us its : List Value), us.length = n → its.length = m →
      ∃ k, bindArgs (PySem.W.fnOf x qual params body scope (.ref T) kV doc pm an cdv ct) ⟨us, []⟩ = seqItems? (.ref T) >>= k ∧ k (some its.toArray) = pure (ps.zip (us ++ its.drop m))) : Binds K fd ps [] := by
  subst hm
  obtain ⟨ds, v, b⟩ := F.binds1 n dvs.length hd (by omega) h
  rw [List.drop_length] at v
  cases v
  exact b
end DL

/-! DLu: defs that say super(); errors with an __init__ of their own. -/
namespace DL
open PySem PySem.Spec PyProof.Rows L2 Evl NdefX
open Classical

/-! ### a def that names its own class -/
/-- such a def as it stands behind the top; Dc the class in which it stands -/
structure SupD (K : PySem.W.Frag) (file x qual : Str) (params : Arguments) (body : List Stmt) (scope : Scope) (f : Addr) (fd : FuncData) (Dc cda cc : Addr) : Prop where
  ex : ∃ (oc : Value) (od : Option Addr) (dV kV doc pm : Value) (an : Option Addr) (ct : Value) (osl : Array (Option Value)),
    fd = PySem.W.ksFn x qual params body scope dV kV doc pm an (.ref cda) ct cc ∧ K.lookup f = some ⟨oc, od, .func fd, osl⟩
  code : PySem.W.codeIn K (.ref cda) qual = true
  cell : ∃ cl cld csl, K.lookup cc = some ⟨cl, cld, .cell (some (.ref Dc)), csl⟩
  file : ∃ (ccl : Value) (cdd : Option Addr) (vs : Array Value) (ccs : Array (Option Value)) (tf : Tok), K.lookup cda = some ⟨ccl, cdd, .fields vs, ccs⟩ ∧ vs[2]? = some (.str file tf)
  dcls : ∃ cdD, PySem.W.clsIn K Dc = some cdD
abbrev nfOf (x qual : Str) (params : Arguments) (body : List Stmt) (scope : Scope) (cda cc : Addr) : NF := ⟨x, qual, params, body, scope, [("__class__", cc)], cda⟩
section
variable {CX : CXT} {P : Program} {w : World} {K : PySem.W.Frag} {mg : Str → Option Value} {base : Heap} {N ps : List Str} {file x qual : Str} {params : Arguments} {body : List Stmt} {scope : Scope} {f Dc cda cc : Addr} {fd : FuncData} {k : Nat} {sp : Sp}
theorem sup_cells {A : Around} {outer : List Env} {s : Shared} {H : Hp} (F : SupD K file x qual params body scope f fd Dc cda cc) (e0 : Env0 P w K mg base A outer s H) : CellsAt [(("__class__" : Str), cc)] ["__class__"] [none] s.heap H := by
  obtain ⟨cl, cld, csl, hc⟩ := F.cell
  have hb := e0.mod.kin _ _ hc
  have hb2 := e0.bs _ _ hb
  have lk : ∀ {y : Str} {c : Addr}, [(("__class__" : Str), cc)].lookup y = some c → y = "__class__" ∧ c = cc := fun {y c} e => by
    rw [List.lookup_cons] at e
    by_cases z : y = ("__class__" : Str)
    · subst z
      simp at e
      exact ⟨rfl, e.symm⟩
    · have zz : (y == ("__class__" : Str)) = false := by simpa using z
      rw [zz] at e
      cases e
  refine ⟨rfl, fun y c e => ?_, fun y z c e1 e2 => ?_, fun i y e => ?_⟩
  · obtain ⟨_, rfl⟩ := lk e
    exact ⟨hb2.2, _, _, hb2.1, rfl⟩
  · rw [(lk e1).1, (lk e2).1]
  · match i, e with
    | 0, e =>
      cases e
      exact ⟨cc, rfl, fun v z => by cases z⟩
    | i + 1, e => simp at e
/-- THE RULE for such a def: its body, walked where it is known which code runs -/
theorem sup_fn (F : SupD K file x qual params body scope f fd Dc cda cc) (S : NScope N ps ["__class__"] scope) (len : ∀ vs H Q E, sp vs H Q E → vs.length = ps.length)
    (hbody : ∀ (A : Around) (outer : List Env) (s : Shared) (H : Hp) (vs : List V) (Q : VK) (E : XK) (s1 : Shared), Room k (A.deeper (envF (nfOf x qual params body scope cda cc) f s.heap.objs.size)) → sp vs H Q E →
      Inv (ncx CX P w K mg base N (nfOf x qual params body scope cda cc) f A outer s H E) [] (startF N vs [none]) H s1 →
      PySem.wpAt (model P w) (A.deeper (envF (nfOf x qual params body scope cda cc) f s.heap.objs.size)) (.func body (envF (nfOf x qual params body scope cda cc) f s.heap.objs.size)) (execs body (envF (nfOf x qual params body scope cda cc) f s.heap.objs.size))
        (SP (ncx CX P w K mg base N (nfOf x qual params body scope cda cc) f A outer s H E) [] { nx := fun _ H' => Q .non H', rt := Q }) (ncx CX P w K mg base N (nfOf x qual params body scope cda cc) f A outer s H E).xe s1) :
    FnOk P w K mg base CX (k + 1) f fd ps sp := by
  refine ⟨len, fun A outer s H args us vs Q E hr e0 hbind r hsp => ?_⟩
  obtain ⟨oc, od, dV, kV, doc, pm, an, ct, osl, rfl, ho⟩ := F.ex
  have hl := len _ _ _ _ hsp
  have lim : s.heap.NoLimit := e0.mod.nolimit.keeps fun b o e => (e0.bs b o e).1
  have X : K.In s.heap := e0.mod.kin.keeps fun b o e => (e0.bs b o e).1
  refine ks_codeAny_call_defAt (body := body) (binds := ps.zip us) hr.depth (X _ _ ho) rfl lim (PySem.W.codeRec_of X F.code) rfl hbind S.nocell (fun ⟨n, _⟩ hy => S.par n (List.of_mem_zip hy).1) (fun h₁ hns kp => ?_) S.co S.gen S.kind
  have I : Inv (ncx CX P w K mg base N (nfOf x qual params body scope cda cc) f A outer s H E) [] (startF N vs [none]) H { s with heap := h₁, toks := s.toks + (ps.zip us).length } := inv_startN S hr.hd e0 hl r (sup_cells F e0) hns kp
  refine ks_wpAt_mono (hbody A outer s H vs Q E _ (hr.deeper _) hsp I) (fun fl s' hs => ?_) fun e s' hs => hs
  have fin : ∀ {σ' : L2.St} {H' : Hp} {v : V} {u : Value}, Inv (ncx CX P w K mg base N (nfOf x qual params body scope cda cc) f A outer s H E) [] σ' H' s' → L2.RelV v u → Q v H' → CE outer P w H s Q u s' :=
    fun {σ' H' v u} J rv q => ⟨v, H', J.os, J.bare, J.base, J.hok, rv, q⟩
  cases fl with
  | ret u =>
    obtain ⟨v, σ', H', J, rv, q⟩ := hs
    exact fin J rv q
  | next =>
    obtain ⟨σ', H', J, q⟩ := hs
    exact fin (v := V.non) (u := Value.none) J rfl q
  | brk =>
    obtain ⟨_, _, _, q⟩ := hs
    exact False.elim q
  | cont =>
    obtain ⟨_, _, _, q⟩ := hs
    exact False.elim q
/-- super() -/
theorem sup_node {A : Around} {outer : List Env} {s0 : Shared} {H0 : Hp} {E : XK} {pins : List (Addr × Obj)} {σ : L2.St} {H : Hp} {s : Shared} {p0 p1 : Pos} {attr : Str} {whole : Sem Value} {e C : Addr} {oe : Obj} {ar : Arg} {Q : Value → Shared → Prop} {E2 : Value → Shared → Prop} {A2 : Around} {body2 : List Stmt}
    (F : SupD K file x qual params body scope f fd Dc cda cc) (S : NScope N ps ["__class__"] scope) (hP : PgOk P file) (I : Inv (ncx CX P w K mg base N (nfOf x qual params body scope cda cc) f A outer s0 H0 E) pins σ H s) (hp : (params.posonlyargs ++ params.args).head? = some ar)
    (ha : N[0]? = some ar.arg) (hal : scope.names.lookup ar.arg = some .local) (hv : σ[0]? = some (some (.ref e))) (hoe : s.heap.get? e = some oe) (hcls : oe.cls = .ref C) (hnc : ∀ c, oe.data ≠ .cls c) (hsub : PySem.W.mroIn K C (.ref Dc) = some true)
    (hm : mg "super" = none) (hks : scope.names.lookup ("super" : Str) = some .globalImplicit) (hat : (attr == ("__class__" : Str)) = false)
    (h : ∀ so h', (∀ b o, s.heap.get? b = some o → h'.get? b = some o) → h'.get? so = some (PySem.W.ks_superObj Dc e C) → Q (.ref so) { s with heap := h' }) :
    PySem.wpAt (model P w) A2 (.func body2 (envF (nfOf x qual params body scope cda cc) f s0.heap.objs.size)) (attributeBase (.Call (.Name "super" p0) [] [] p1) attr (envF (nfOf x qual params body scope cda cc) f s0.heap.objs.size) whole) Q E2 s := by
  obtain ⟨oc, od, dV, kV, doc, pm, an, ct, osl, rfl, ho⟩ := F.ex
  obtain ⟨ccl, cdd, vs, ccs, tf, hcode, hvs⟩ := F.file
  obtain ⟨cl, cld, csl, hcell⟩ := F.cell
  obtain ⟨cdD, hD⟩ := F.dcls
  have X : K.In s.heap := I.kIn
  have hkc : scope.names.lookup ("__class__" : Str) = some .free := S.frk _ (List.mem_cons_self ..)
  obtain ⟨m, hn, hl⟩ := id I.loc
  obtain ⟨u, ru, lu⟩ := hl 0 ar.arg (.ref e) ha hv (Or.inl hal)
  obtain rfl : u = Value.ref e := ru
  have hme : m ar.arg = some (.ref e) := by
    rcases lu with ⟨_, z⟩ | ⟨z, _⟩
    · exact z
    · have z1 : scope.names.lookup ar.arg = some .cell ∨ scope.names.lookup ar.arg = some .free := z
      rw [hal] at z1
      rcases z1 with z1 | z1 <;> cases z1
  obtain ⟨oD, hD1, hD2⟩ : ∃ oD, s.heap.get? Dc = some oD ∧ oD.data = .cls cdD := by
    unfold PySem.W.clsIn at hD
    split at hD
    · rename_i c d cd' sl ho
      cases hD
      exact ⟨_, X _ _ ho, rfl⟩
    · cases hD
  obtain ⟨mb, hb1, hb2⟩ := I.mod.blt
  refine ks_wpAt_super_base (env := envF (nfOf x qual params body scope cda cc) f s0.heap.objs.size) hks hkc hat rfl (X _ _ ho) rfl hp rfl (X _ _ hcode) rfl hvs (by rw [hP.file]; simp) hP.top ?_
  refine PySem.W.ks_loadName_global S.kind hks (Calls.loadGlobal_builtin (by have q := I.mod.glob.keeps I.bk; rw [← I.ok.glob] at q; exact q) hm (by have q := hb1.keeps I.bk; rw [← I.ok.blt] at q; exact q) ((hb2 "super" (by decide)).trans (by first | rfl | decide +kernel)) ⟨rfl, ?_⟩)
  refine wpAny_loadName_free S.kind hkc rfl ⟨_, X _ _ hcell, rfl⟩ ?_
  refine wpAny_loadName_local S.kind hal hn hme ?_
  refine ks_wpAny_isType_cls hD1 hD2 ⟨rfl, ?_⟩
  obtain ⟨hp', g, d, t, os⟩ := s
  exact ks_wpAny_call_super hD1 hD2 hoe hcls hnc (PySem.W.looks_mroIn X hsub) (fun h' e k => h _ h' k e)
end

/-! ### super().__init__(msg) of an error over ValueError -/
/-- what the text says of the class C of an error whose __init__ stands in the class Dc -/
structure OkXC (K : PySem.W.Frag) (C Dc : Addr) : Prop where
  oc : OexC K C
  mr : PySem.W.mroIn K C (.ref Dc) = some true
  sup : PySem.W.ks_superIn K C Dc "__init__" = some (some (.builtin "ValueError.__init__"))
  sb : PySem.W.subIn K (.ref C) (.type "ValueError") = some true
  st : PySem.W.nsIn K cStatics "thirdparty.any" = some none
theorem exc_init_run {X : Cx} {pins : List (Addr × Obj)} {σ : L2.St} {H : Hp} {s : Shared} {e C u : Addr} {rest : List Value} {A : Around} {Q : Value → Shared → Prop} {E : Value → Shared → Prop} (T : OexC X.K C) (I : Inv X pins σ H s) (ee : H e = some (exo e C none))
    (hu : s.heap.get? u = some (PySem.W.kxs_mw "ValueError.__init__" e)) (hz : rest.length ≤ sizeLine) (h : ∀ s', Inv X pins σ H s' → Q .none s') : wpAny (model X.prog X.w) A (call (.ref u) rest) Q E s := by
  obtain ⟨nm, q, N, bs, bm, sn, sub, ab, col, dd, k0, k1, k2, k3, k5, hC, hbm⟩ := T.cls
  obtain ⟨t1, ho⟩ := exo_at I.hok ee
  have hC2 := I.kIn _ _ hC
  obtain ⟨hp, g, d, t, os⟩ := s
  refine wpAny_call (codeAny_of_tree ?_)
  show wpAny _ A.in1 (callAny (.ref u) ⟨rest, []⟩) _ _ _
  simp only [callAny]
  refine wpAny_bind (wpAny_load hu ?_)
  simp only [PySem.W.kxs_mw, show (Value.type "method-wrapper" == Value.type "method" || Value.type "method-wrapper" == Value.type "builtin_function_or_method" || Value.type "method-wrapper" == Value.type "method-wrapper") = true by decide, if_true]
  refine PySem.W.KFB.if_so (by decide) ?_
  refine wpAny_bind (PySem.W.check_bound_init F.excBase_ValueError.toExcCallFacts hC2 ho rfl ?_)
  refine wpAny_bind (wpAny_pure (wpAny_pure ?_))
  refine ⟨plainId_quiet F.excBase_ValueError.init.plain _, codeAny_builtin F.excBase_ValueError.initEntry ?_⟩
  refine PySem.W.exc_init_tree (cls := .ref C) (t0 := t1) (dv := none) (c2 := .none) (c3 := .none) (b4 := .bool false) ho hz fun h' k hx ht => ?_
  have J := I.write (t' := t) (x := e) (e := e) (o := exo e C none) (by rw [ee]; exact True.intro) (.inl rfl) k ⟨_, hx⟩ (exo_ok hx)
  have eu : upd H e (exo e C none) = H := by
    funext b
    by_cases hb : b = e
    · rw [hb, upd_same, ee]
    · rw [upd_ne hb]
  rw [eu] at J
  exact h _ J
section
variable {CX : CXT} {P : Program} {w : World} {K : PySem.W.Frag} {mg : Str → Option Value} {base : Heap} {N ps : List Str} {file x qual : Str} {params : Arguments} {body : List Stmt} {scope : Scope} {f Dc cda cc : Addr} {fd : FuncData} {k : Nat} {sp : Sp}
abbrev ncX (CX : CXT) (P : Program) (w : World) (K : PySem.W.Frag) (mg : Str → Option Value) (base : Heap) (N : List Str) (x qual : Str) (params : Arguments) (body : List Stmt) (scope : Scope) (cda cc f : Addr) (A : Around) (outer : List Env) (s0 : Shared) (H0 : Hp) (E : XK) : Cx :=
  ncx CX P w K mg base N (nfOf x qual params body scope cda cc) f A outer s0 H0 E
theorem sup_init {A : Around} {outer : List Env} {s0 : Shared} {H0 : Hp} {E : XK} {σ : L2.St} {H : Hp} {s : Shared} {p0 p1 p2 p3 p4 : Pos} {e C : Addr} {ar : Arg} {body2 : List Stmt} {msg : Expr} {rest : List Stmt} {tm : TE} {tr : TS} {D : Ends} {pl : Sem Bool}
    (F : SupD K file x qual params body scope f fd Dc cda cc) (S : NScope N ps ["__class__"] scope) (hP : PgOk P file) (T : OkXC K C Dc) (I : Inv (ncX CX P w K mg base N x qual params body scope cda cc f A outer s0 H0 E) [] σ H s) (hp : (params.posonlyargs ++ params.args).head? = some ar)
    (ha : N[0]? = some ar.arg) (hal : scope.names.lookup ar.arg = some .local) (hv : σ[0]? = some (some (.ref e))) (ee : H e = some (exo e C none)) (hm : mg "super" = none) (hks : scope.names.lookup ("super" : Str) = some .globalImplicit)
    (hmsg : PE (ncX CX P w K mg base N x qual params body scope cda cc f A outer s0 H0 E) msg tm) (hrest : PSs (ncX CX P w K mg base N x qual params body scope cda cc f A outer s0 H0 E) rest tr)
    (q : tm σ H fun v H1 => [v].length = 1 ∧ H1 e = some (exo e C none) ∧ tr D σ H1)
    (hint : interactive (envF (nfOf x qual params body scope cda cc) f s0.heap.objs.size) = false := by rfl)
    (hst : starEach [msg] (envF (nfOf x qual params body scope cda cc) f s0.heap.objs.size) = [(false, eval msg (envF (nfOf x qual params body scope cda cc) f s0.heap.objs.size))] := by rfl)
    (het : eval (.Call (.Attribute (.Call (.Name "super" p0) [] [] p1) "__init__" p2) [msg] [] p3) (envF (nfOf x qual params body scope cda cc) f s0.heap.objs.size) = (do
      let ov ← attributeBase (.Call (.Name "super" p0) [] [] p1) "__init__" (envF (nfOf x qual params body scope cda cc) f s0.heap.objs.size) (eval (.Call (.Name "super" p0) [] [] p1) (envF (nfOf x qual params body scope cda cc) f s0.heap.objs.size))
      standAt p2.atName
      let (f1, first) ← holding [ov] (getMethod ov "__init__" pl)
      callWith p3 f1 first (backTo p3 (starEach [msg] (envF (nfOf x qual params body scope cda cc) f s0.heap.objs.size))) []) := by rfl) :
    PySem.wpAt (model P w) (A.deeper (envF (nfOf x qual params body scope cda cc) f s0.heap.objs.size)) (.func body2 (envF (nfOf x qual params body scope cda cc) f s0.heap.objs.size))
      (execs (.Expr (.Call (.Attribute (.Call (.Name "super" p0) [] [] p1) "__init__" p2) [msg] [] p3) p4 :: rest) (envF (nfOf x qual params body scope cda cc) f s0.heap.objs.size))
      (SP (ncX CX P w K mg base N x qual params body scope cda cc f A outer s0 H0 E) [] D) (ncX CX P w K mg base N x qual params body scope cda cc f A outer s0 H0 E).xe s := by
  obtain ⟨t1, ho⟩ := exo_at I.hok ee
  obtain ⟨nm, qn, Nn, bs, bm, sn, sub, ab, col, dd, k0, k1, k2, k3, k5, hC, hbm⟩ := T.oc.cls
  have hxC : e ≠ C := fun z => by
    have z1 := I.kIn _ _ hC
    rw [← z, ho] at z1
    cases z1
  refine ks_wpAt_execs_cons (ks_wpAt_Expr_any (ks_wpAt_MethodCall (sup_node F S hP I hp ha hal hv ho rfl (fun c z => by cases z) T.mr hm hks (by decide) fun so h' kk hso => ?_) het) hint)
  have I1 : Inv (ncX CX P w K mg base N x qual params body scope cda cc f A outer s0 H0 E) [] σ H { s with heap := h' } := I.kept (t' := s.toks) kk
  have KI : K.In h' := I1.kIn
  have hsz := I1.hok
  obtain ⟨hp0, g, d, t, os⟩ := s
  have hi : PySem.W.InstAt h' e { cls := .ref C, dict := none, data := .fields #[.ref t1, .none, .none, .none, .bool false, .none] } C none := ⟨kk _ _ ho, rfl, rfl, trivial⟩
  cases hc : PySem.W.clsIn K C with
  | none =>
    have z := T.sup
    unfold PySem.W.ks_superIn at z
    rw [hc] at z
    cases z
  | some cd =>
    have z := T.sup
    unfold PySem.W.ks_superIn at z
    rw [hc] at z
    refine PySem.W.kxs_getMethod PySem.W.kxs_ValueError hso (PySem.W.looks_opaque KI T.st) (l₀ := cd.mro) (fun A Q E s k q => wpAny_bind ((PySem.W.looks_clsIn KI hc) A _ E s k (wpAny_pure q))) rfl KI z (hi.type.andThen (PySem.W.looks_subIn KI T.sb)) hxC (by decide) ?_
    have hg0 : (h'.push (PySem.W.kxs_mw "ValueError.__init__" e)).get? h'.objs.size = some (PySem.W.kxs_mw "ValueError.__init__" e) := Heap.get?_push_at rfl rfl
    have I2 : Inv (ncX CX P w K mg base N x qual params body scope cda cc f A outer s0 H0 E) [] σ H { heap := h'.push (PySem.W.kxs_mw "ValueError.__init__" e), gens := g, drawn := d, toks := t + 1, os := os } := I1.kept (t' := t + 1) fun b o z => Heap.get?_push_of_some _ z
    have hL := I1.lt
    have I3 : Inv (ncX CX P w K mg base N x qual params body scope cda cc f A outer s0 H0 E) [(h'.objs.size, PySem.W.kxs_mw "ValueError.__init__" e)] σ H { heap := h'.push (PySem.W.kxs_mw "ValueError.__init__" e), gens := g, drawn := d, toks := t + 1, os := os } :=
      I2.pins_of fun p hp => by
        have e1 : p = (h'.objs.size, PySem.W.kxs_mw "ValueError.__init__" e) := by simpa using hp
        subst e1
        exact ⟨hg0, I1.hok.fresh (Nat.le_refl _), Nat.ne_of_gt hL, I1.nofs (Nat.le_refl _), fun v z => by cases z⟩
    show wpAny _ _ (callWith p3 (.ref h'.objs.size) [] (backTo p3 (starEach [msg] _)) []) _ _ _
    rw [hst]
    have hpa : wpAny (model P w) (A.deeper (envF (nfOf x qual params body scope cda cc) f s0.heap.objs.size)) (spliced (backTo p3 (starEach [msg] (envF (nfOf x qual params body scope cda cc) f s0.heap.objs.size)))) (AP (ncX CX P w K mg base N x qual params body scope cda cc f A outer s0 H0 E) [(h'.objs.size, PySem.W.kxs_mw "ValueError.__init__" e)] σ (fun vs H1 => vs.length = 1 ∧ H1 e = some (exo e C none) ∧ tr D σ H1)) (ncX CX P w K mg base N x qual params body scope cda cc f A outer s0 H0 E).xe
        { heap := h'.push (PySem.W.kxs_mw "ValueError.__init__" e), gens := g, drawn := d, toks := t + 1, os := os } := (pa_cons hmsg pa_nil hst).run p3 _ _ σ H (fun vs H1 => vs.length = 1 ∧ H1 e = some (exo e C none) ∧ tr D σ H1) I3 q
    rw [hst] at hpa
    refine PySem.W.kxs_callWith (i := "ValueError.__init__") (x := e) (by rfl) (PySem.Calls.evalArgs_plain (thn hpa fun vs s1 hvs => ?_))
    obtain ⟨vs2, H1, I4, rv, hl, e1, q1⟩ := hvs
    obtain ⟨hpin, _⟩ := I4.pin (h'.objs.size, PySem.W.kxs_mw "ValueError.__init__" e) (by simp)
    refine ⟨hpin, exc_init_run T.oc I4 e1 hpin (by show vs.length ≤ sizeLine; rw [← rv.length, hl]; exact big_line (by decide)) fun s' I5 => ?_⟩
    exact wpAt_of_wpAny (hrest.run [] s' σ H1 D (I5.pins_of fun p hp => by cases hp) q1)
/-- a text or an int that an f-string takes -/
def fmtV : V → Prop
  | .str y => y.length ≤ 1000000
  | .int i => i.natAbs.log2 < 1920
  | _ => False
theorem fmt_run {σ : L2.St} {H : Hp} {Q : VK} {i : Nat} {v : V} (e : σ[i]? = some (some v)) (h : fmtV v) (q : ∀ y : Str, y.length ≤ 1000000 → Q (.str y) H) : tFmt (tVar i) σ H Q := by
  refine ⟨v, e, ?_⟩
  cases v with
  | str y =>
    have h : y.length ≤ 1000000 := h
    exact Or.inl ⟨y, rfl, by rw [sizeLine_eq]; omega, q y h⟩
  | int i =>
    have h : i.natAbs.log2 < 1920 := h
    refine Or.inr ⟨i, rfl, h, q _ ?_⟩
    have e1 := int_text_length_le (k := 1920) (by decide) h
    rw [PySem.ofString_length]
    omega
  | _ => exact h.elim
/-- the parts of a message: texts, names' values -/
def tMs (l : List (Sum Str Nat)) : List TE := l.map fun z => match z with
  | .inl x => tC (.str x)
  | .inr i => tFmt (tVar i)
theorem msg_run {σ : L2.St} {H : Hp} {Q : Str → Hp → Prop} : ∀ (l : List (Sum Str Nat)) (acc : Str), acc.length + 1000000 * l.length ≤ sizeLine → (∀ x, Sum.inl x ∈ l → x.length ≤ 1000000) → (∀ i, Sum.inr i ∈ l → ∃ v, σ[i]? = some (some v) ∧ fmtV v) → (∀ out, Q out H) → tJs (tMs l) acc σ H Q
  | [], acc, _, _, _, q => q acc
  | .inl x :: l, acc, hz, hc, hv, q => by
    have hx := hc x (List.mem_cons_self ..)
    have hl : (acc ++ x).length = acc.length + x.length := by
      show (acc.cps ++ x.cps).size = acc.cps.size + x.cps.size
      rw [Array.size_append]
    rw [List.length_cons] at hz
    refine ⟨x, rfl, by omega, ?_⟩
    exact msg_run l _ (by omega) (fun y hy => hc y (List.mem_cons_of_mem _ hy)) (fun i hi => hv i (List.mem_cons_of_mem _ hi)) q
  | .inr i :: l, acc, hz, hc, hv, q => by
    obtain ⟨v, e, h⟩ := hv i (List.mem_cons_self ..)
    rw [List.length_cons] at hz
    rw [show tMs (Sum.inr i :: l) = tFmt (tVar i) :: tMs l from rfl, tJs]
    refine fmt_run e h fun y hy => ?_
    have hl : (acc ++ y).length = acc.length + y.length := by
      show (acc.cps ++ y.cps).size = acc.cps.size + y.cps.size
      rw [Array.size_append]
    refine ⟨y, rfl, by omega, ?_⟩
    exact msg_run l _ (by omega) (fun y hy => hc y (List.mem_cons_of_mem _ hy)) (fun i hi => hv i (List.mem_cons_of_mem _ hi)) q
def msB (n : Nat) (l : List (Sum Str Nat)) : Bool := decide (l.length ≤ 16) && l.all fun z => match z with
  | .inl x => decide (x.length ≤ 1000000)
  | .inr i => decide (0 < i) && decide (i ≤ n)
theorem msB_ok {n : Nat} {l : List (Sum Str Nat)} (h : msB n l = true) : 1000000 * l.length ≤ 16777216 ∧ (∀ x, Sum.inl x ∈ l → x.length ≤ 1000000) ∧ ∀ i, Sum.inr i ∈ l → 0 < i ∧ i ≤ n := by
  unfold msB at h
  rw [Bool.and_eq_true, decide_eq_true_eq, List.all_eq_true] at h
  refine ⟨by omega, fun x hx => of_decide_eq_true (h.2 _ hx), fun i hi => ?_⟩
  have z := h.2 _ hi
  simp only [Bool.and_eq_true, decide_eq_true_eq] at z
  exact z
/-- the promise of C.__init__(self, f): self.f = f -/
def spX1 (f : Str) (C : Addr) : Sp := fun vs H Q E => ∃ (e : Addr) (v : V), vs = [.ref e, v] ∧ fmtV v ∧ H e = some (exo e C none) ∧ ∀ dx, H dx = none → dx ≠ e → Q .non (upd (upd H dx (exd dx [(f, v)])) e (exo e C (some dx)))
/-- .. of two fields -/
def spX2 (f g : Str) (C : Addr) : Sp := fun vs H Q E => ∃ (e : Addr) (v u : V), vs = [.ref e, v, u] ∧ fmtV v ∧ fmtV u ∧ H e = some (exo e C none) ∧ ∀ dx, H dx = none → dx ≠ e → Q .non (upd (upd (upd H dx (exd dx [(f, v)])) e (exo e C (some dx))) dx (exd dx [(g, u), (f, v)]))
theorem xi1 {a1 p1 fld : Str} {ar : Arg} {z0 z1 z2 z3 z4 z5 z6 z7 z8 z9 : Pos} {v1 v2 : Expr} {vr : List Expr} {l : List (Sum Str Nat)} (F : SupD K file x qual params body scope f fd Dc cda cc) (S : NScope [a1, p1, "__class__"] [a1, p1] ["__class__"] scope) (hP : PgOk P file) (T : OkXC K Dc Dc)
    (hp : (params.posonlyargs ++ params.args).head? = some ar) (har : ar.arg = a1) (hm : mg "super" = none) (hks : scope.names.lookup ("super" : Str) = some .globalImplicit) (hno : PySem.W.findIn K (.ref Dc) fld = some none)
    (hb : body = [.Expr (.Call (.Attribute (.Call (.Name "super" z0) [] [] z1) "__init__" z2) [.JoinedStr (v1 :: v2 :: vr) z3] [] z4) z5, .Assign [.Attribute (.Name a1 z6) fld z7] (.Name p1 z8) z9])
    (hj : ∀ X : Cx, X.N = [a1, p1, "__class__"] → X.env.scope = scope → PJ X (v1 :: v2 :: vr) (tMs l)) (hms : msB 1 l = true)
    (het : ∀ env : Env, ∃ pl, eval (.Call (.Attribute (.Call (.Name "super" z0) [] [] z1) "__init__" z2) [.JoinedStr (v1 :: v2 :: vr) z3] [] z4) env = (do
      let ov ← attributeBase (.Call (.Name "super" z0) [] [] z1) "__init__" env (eval (.Call (.Name "super" z0) [] [] z1) env)
      standAt z2.atName
      let (f1, first) ← holding [ov] (getMethod ov "__init__" pl)
      callWith z4 f1 first (backTo z4 (starEach [.JoinedStr (v1 :: v2 :: vr) z3] env)) []))
    (hd1 : (a1 == ("__debug__" : Str)) = false := by decide) (hd2 : (a1 == ("__classdict__" : Str)) = false := by decide) (hd3 : (p1 == ("__debug__" : Str)) = false := by decide) (hd4 : (p1 == ("__classdict__" : Str)) = false := by decide) :
    FnOk P w K mg base CX 1 f fd [a1, p1] (spX1 fld Dc) := by
  subst har
  obtain ⟨hl, hc, hv⟩ := msB_ok hms
  refine sup_fn (k := 0) (N := [ar.arg, p1, "__class__"]) F S (fun vs H Q E h => ?_) (fun A outer s H vs Q E s1 hr hsp I => ?_)
  · obtain ⟨e, v, rfl, _⟩ := h
    rfl
  · obtain ⟨e, v, rfl, hf, ee, q⟩ := hsp
    subst hb
    have hal : scope.names.lookup ar.arg = some .local := S.par _ (List.mem_cons_self ..)
    have hpl : scope.names.lookup p1 = some .local := S.par _ (List.mem_cons_of_mem _ (List.mem_cons_self ..))
    obtain ⟨pl, het⟩ := het (envF (nfOf x qual params _ scope cda cc) f s.heap.objs.size)
    refine sup_init (pl := pl) (het := het) (σ := startF [ar.arg, p1, "__class__"] [.ref e, v] [none]) (tr := tOst K fld (tVar 0) (tVar 1)) F S hP T I hp rfl hal rfl ee hm hks (pe_joined (hj _ rfl rfl)) (pss_one (ps_ost (pe_var (i := 0) rfl (Or.inl hal) hd1 hd2) (pe_var (i := 1) rfl (Or.inl hpl) hd3 hd4))) ?_ ?_
    · refine msg_run l Str.empty (by rw [sizeLine_eq]; show 0 + _ ≤ _; omega) hc (fun i hi => ?_) fun out => ⟨rfl, ee, ?_⟩
      · obtain rfl : i = 1 := by have := hv i hi; omega
        exact ⟨v, rfl, hf⟩
      · exact ⟨v, rfl, .ref e, rfl, e, Dc, rfl, T.oc, hno, Or.inl ⟨ee, fun dx hn hne => q dx hn hne⟩⟩
    · unfold interactive
      rw [show (envF (nfOf x qual params _ scope cda cc) f s.heap.objs.size).scope.kind = .function from S.kind]
      rfl
theorem xi2 {a1 p1 p2 fld gld : Str} {ar : Arg} {z0 z1 z2 z3 z4 z5 z6 z7 z8 z9 y6 y7 y8 y9 : Pos} {v1 v2 : Expr} {vr : List Expr} {l : List (Sum Str Nat)} (F : SupD K file x qual params body scope f fd Dc cda cc) (S : NScope [a1, p1, p2, "__class__"] [a1, p1, p2] ["__class__"] scope) (hP : PgOk P file) (T : OkXC K Dc Dc)
    (hp : (params.posonlyargs ++ params.args).head? = some ar) (har : ar.arg = a1) (hm : mg "super" = none) (hks : scope.names.lookup ("super" : Str) = some .globalImplicit) (hno : PySem.W.findIn K (.ref Dc) fld = some none) (hno2 : PySem.W.findIn K (.ref Dc) gld = some none)
    (hb : body = [.Expr (.Call (.Attribute (.Call (.Name "super" z0) [] [] z1) "__init__" z2) [.JoinedStr (v1 :: v2 :: vr) z3] [] z4) z5, .Assign [.Attribute (.Name a1 z6) fld z7] (.Name p1 z8) z9, .Assign [.Attribute (.Name a1 y6) gld y7] (.Name p2 y8) y9])
    (hj : ∀ X : Cx, X.N = [a1, p1, p2, "__class__"] → X.env.scope = scope → PJ X (v1 :: v2 :: vr) (tMs l)) (hms : msB 2 l = true)
    (het : ∀ env : Env, ∃ pl, eval (.Call (.Attribute (.Call (.Name "super" z0) [] [] z1) "__init__" z2) [.JoinedStr (v1 :: v2 :: vr) z3] [] z4) env = (do
      let ov ← attributeBase (.Call (.Name "super" z0) [] [] z1) "__init__" env (eval (.Call (.Name "super" z0) [] [] z1) env)
      standAt z2.atName
      let (f1, first) ← holding [ov] (getMethod ov "__init__" pl)
      callWith z4 f1 first (backTo z4 (starEach [.JoinedStr (v1 :: v2 :: vr) z3] env)) []))
    (hd1 : (a1 == ("__debug__" : Str)) = false := by decide) (hd2 : (a1 == ("__classdict__" : Str)) = false := by decide) (hd3 : (p1 == ("__debug__" : Str)) = false := by decide) (hd4 : (p1 == ("__classdict__" : Str)) = false := by decide) (hd5 : (p2 == ("__debug__" : Str)) = false := by decide) (hd6 : (p2 == ("__classdict__" : Str)) = false := by decide) :
    FnOk P w K mg base CX 1 f fd [a1, p1, p2] (spX2 fld gld Dc) := by
  subst har
  obtain ⟨hl, hc, hv⟩ := msB_ok hms
  refine sup_fn (k := 0) (N := [ar.arg, p1, p2, "__class__"]) F S (fun vs H Q E h => ?_) (fun A outer s H vs Q E s1 hr hsp I => ?_)
  · obtain ⟨e, v, u, rfl, _⟩ := h
    rfl
  · obtain ⟨e, v, u, rfl, hf, hg, ee, q⟩ := hsp
    subst hb
    have hal : scope.names.lookup ar.arg = some .local := S.par _ (List.mem_cons_self ..)
    have hpl : scope.names.lookup p1 = some .local := S.par _ (List.mem_cons_of_mem _ (List.mem_cons_self ..))
    have hpl2 : scope.names.lookup p2 = some .local := S.par _ (List.mem_cons_of_mem _ (List.mem_cons_of_mem _ (List.mem_cons_self ..)))
    obtain ⟨pl, het⟩ := het (envF (nfOf x qual params _ scope cda cc) f s.heap.objs.size)
    refine sup_init (pl := pl) (het := het) (σ := startF [ar.arg, p1, p2, "__class__"] [.ref e, v, u] [none]) (tr := tSeq (tOst K fld (tVar 0) (tVar 1)) (tOst K gld (tVar 0) (tVar 2))) F S hP T I hp rfl hal rfl ee hm hks (pe_joined (hj _ rfl rfl))
      (pss_cons (ps_ost (pe_var (i := 0) rfl (Or.inl hal) hd1 hd2) (pe_var (i := 1) rfl (Or.inl hpl) hd3 hd4)) (pss_one (ps_ost (pe_var (i := 0) rfl (Or.inl hal) hd1 hd2) (pe_var (i := 2) rfl (Or.inl hpl2) hd5 hd6)))) ?_ ?_
    · refine msg_run l Str.empty (by rw [sizeLine_eq]; show 0 + _ ≤ _; omega) hc (fun i hi => ?_) fun out => ⟨rfl, ee, ?_⟩
      · rcases (show i = 1 ∨ i = 2 by have := hv i hi; omega) with rfl | rfl
        · exact ⟨v, rfl, hf⟩
        · exact ⟨u, rfl, hg⟩
      · refine ⟨v, rfl, .ref e, rfl, e, Dc, rfl, T.oc, hno, Or.inl ⟨ee, fun dx hn hne => ?_⟩⟩
        exact ⟨u, rfl, .ref e, rfl, e, Dc, rfl, T.oc, hno2, Or.inr ⟨dx, [(fld, v)], upd_same, by rw [upd_ne hne, upd_same], (by simp), q dx hn hne⟩⟩
    · unfold interactive
      rw [show (envF (nfOf x qual params _ scope cda cc) f s.heap.objs.size).scope.kind = .function from S.kind]
      rfl
end

/-! ### raise C(a, ..) -/
def spX : List Str → Addr → Sp
  | [f], C => spX1 f C
  | [f, g], C => spX2 f g C
  | _, _ => fun _ _ _ _ => False
/-- the error class C, its __init__ keeping its parameters as the fields fs -/
structure OkX (P : Program) (w : World) (K : PySem.W.Frag) (mg : Str → Option Value) (base : Heap) (C : Str) (fs : List Str) : Prop where
  gl : mg C = some (.ref (He.ga K C))
  oc : OexC K (He.ga K C)
  len : fs.length = 1 ∨ fs.length = 2
  ini : ∃ fI fd ps, PySem.W.findIn K (.ref (He.ga K C)) "__init__" = some (some (.ref fI)) ∧ PySem.W.typeIn K (.ref fI) = some (.type "function") ∧ Binds K fd ps [] ∧ FnOk P w K mg base (L2.CX P w) 1 fI fd ps (spX fs (He.ga K C))
/-- what a message takes -/
@[simp] def fmtD : D → Prop
  | .str y => y.length ≤ 1000000
  | .int i => -18446744073709551616 < i ∧ i < 18446744073709551616
  | _ => False
def dRX (C : Str) (fs : List Str) (dt : DTA) : DTS := fun D G M => dt G M (fun ds M1 => ds.length = fs.length ∧ (∀ d ∈ ds, fmtD d) ∧ D.ex ⟨C, fs.reverse, ds.reverse⟩ G M1) (fun x M' => D.ex x G M')
theorem fmt_of {K : PySem.W.Frag} {as : AS} {H : Hp} {d : D} {v : V} (h : fmtD d) (r : repX K as H d v) : fmtV v ∧ rep K H d v := by
  cases d with
  | str y =>
    have r' := repX_str.mp r
    subst r'
    exact ⟨h, by rw [rep]⟩
  | int i =>
    have r' := repX_int.mp r
    subst r'
    have h : -18446744073709551616 < i ∧ i < 18446744073709551616 := h
    refine ⟨?_, by rw [rep]⟩
    show i.natAbs.log2 < 1920
    by_cases z : i.natAbs = 0
    · rw [z]
      decide
    · refine (Nat.log2_lt z).mpr (Nat.lt_of_lt_of_le (m := 2 ^ 64) (by omega) (Nat.pow_le_pow_right (by decide) (by decide)))
  | _ => exact h.elim
theorem passes_false {X : Cx} {CX : CXT} (h : ∀ o H s u s', ¬ CX o H s (fun _ _ _ => False) u s') : Passes CX X (fun _ _ _ => False) := fun pins σ H s e s' I q => (h _ _ _ _ _ q).elim
theorem cx_false {P : Program} {w : World} {o : List Env} {H : Hp} {s : Shared} {u : Value} {s' : Shared} (h : L2.CX P w o H s (fun _ _ _ => False) u s') : False := by
  obtain ⟨_, _, _, _, _, _, _, _, _, _, _, _, z⟩ := h
  exact z
section
variable {X : Cx} {K : PySem.W.Frag} {as as1 : AS} {M M1 : Ms} {H H1 : Hp} {G : Gm} {s : L2.St} {kx : DX} {k : DK} {Q : VK} {a b c e : Expr} {da db dc : DTE} {pos : Pos}
theorem upd_del {H1 : Hp} {a dx : Addr} {o1 o2 : HO} {x : HO} (hn : H1 a = none) (hd : H1 dx = none) (hne : dx ≠ a) : upd (del (upd (upd H1 dx o1) a o2) a) dx x = upd H1 dx x := by
  funext b
  by_cases z : b = dx
  · rw [z, upd_same, upd_same]
  · rw [upd_ne z, upd_ne z]
    by_cases y : b = a
    · rw [y, del_same, hn]
    · rw [del_ne y, upd_ne y, upd_ne z]
theorem w1_raiseX {x : Str} {fs : List Str} {p p3 : Pos} {es : List Expr} {dt : DTA} (hc : X.calm = true) (F : OkX X.prog X.w X.K X.mg X.base x fs) (hr : Room 2 X.A) (hg : Gl X x) (ha : WA X (e :: es) dt)
    (hdb : (x == ("__debug__" : Str)) = false := by decide) (he : starEach (e :: es) X.env = (false, eval e X.env) :: starEach es X.env := by rfl) (hpl : (backTo p3 (starEach es X.env)).any (·.1) = false := by rfl) :
    W1 X (.Raise (some (.Call (.Name x p) (e :: es) [] p3)) none pos) (dRX x fs dt) := ⟨fun {s H as G M D DE} stt hd tk rd => by
  obtain ⟨fI, fd, ps, h1, h2, h3, h4⟩ := F.ini
  refine PS.sem (ps_raise hc tk (pmk_oex (CX := L2.CX X.prog X.w) F.oc h1 h2 h4 hr h3 .nil (passes_false fun _ _ _ _ _ => cx_false) hg F.gl pa_sem hdb he hpl)) ?_
  refine ha.run stt hd (takes_e tk) fun vs H' as' ds M' n hh rx q => ?_
  obtain ⟨hl, hf, q⟩ := q
  have fin : ∀ {dx : Addr} {ns : List Str} {ds2 : List DL.D} {vs2 : List V}, H' dx = none → ns ≠ [] → repL X.K (hide as' M' H') ds2 vs2 → ns.length = vs2.length → D.ex ⟨x, ns, ds2⟩ G M' → XW X.K as M H D.ex (.ref (He.ga X.K x)) (some dx) s (upd H' dx (.xd (ns.zip vs2))) := fun {dx ns ds2 vs2} hdx hns r2 hl2 q2 => by
    obtain ⟨b1, b2, b3⟩ := hh.imm (o := .xd (ns.zip vs2)) hdx
    exact ⟨_, G, as', M', n.trans b2, stt.nx (n.trans b2) b1, ⟨rfl, Or.inr ⟨hns, dx, vs2, rfl, b3, repL_mono b2.ex _ _ r2, hl2⟩⟩, q2⟩
  match fs, ds, hl, F.len with
  | [], _, _, z => exact absurd z (by simp)
  | [f], [d], _, _ =>
    obtain ⟨v, rfl, r1⟩ := rXs1 rx
    obtain ⟨g1, g2⟩ := fmt_of (hf d (List.mem_cons_self ..)) r1
    refine ⟨by simp, fun a hn => ⟨a, v, rfl, g1, upd_same, fun dx hdx hne => ⟨rfl, dx, [(f, v)], upd_same, by rw [upd_ne hne, upd_same], by rw [upd_ne hne] at hdx; exact hdx, ?_⟩⟩⟩
    rw [upd_ne hne] at hdx
    have e1 : upd (del (upd (upd (upd H' a (exo a (He.ga X.K x) none)) dx (exd dx [(f, v)])) a (exo a (He.ga X.K x) (some dx))) a) dx (.xd [(f, v)]) = upd H' dx (.xd [(f, v)]) := by
      funext b
      by_cases z : b = dx
      · rw [z, upd_same, upd_same]
      · rw [upd_ne z, upd_ne z]
        by_cases y : b = a
        · rw [y, del_same, hn]
        · rw [del_ne y, upd_ne y, upd_ne z, upd_ne y]
    rw [e1]
    exact fin (ns := [f]) (ds2 := [d]) (vs2 := [v]) hdx (by simp) (repL_one g2) rfl q
  | [f, g], [d1, d2], _, _ =>
    obtain ⟨v, u, rfl, r1, r2⟩ := rXs2 rx
    obtain ⟨g1, g2⟩ := fmt_of (hf d1 (List.mem_cons_self ..)) r1
    obtain ⟨g3, g4⟩ := fmt_of (hf d2 (List.mem_cons_of_mem _ (List.mem_cons_self ..))) r2
    refine ⟨by simp, fun a hn => ⟨a, v, u, rfl, g1, g3, upd_same, fun dx hdx hne => ⟨rfl, dx, [(g, u), (f, v)], by rw [upd_ne (Ne.symm hne), upd_same], by rw [upd_same], by rw [upd_ne hne] at hdx; exact hdx, ?_⟩⟩⟩
    rw [upd_ne hne] at hdx
    have e1 : upd (del (upd (upd (upd (upd H' a (exo a (He.ga X.K x) none)) dx (exd dx [(f, v)])) a (exo a (He.ga X.K x) (some dx))) dx (exd dx [(g, u), (f, v)])) a) dx (.xd [(g, u), (f, v)]) = upd H' dx (.xd [(g, u), (f, v)]) := by
      funext b
      by_cases z : b = dx
      · rw [z, upd_same, upd_same]
      · rw [upd_ne z, upd_ne z]
        by_cases y : b = a
        · rw [y, del_same, hn]
        · rw [del_ne y, upd_ne z, upd_ne y, upd_ne z, upd_ne y]
    rw [e1]
    exact fin (ns := [g, f]) (ds2 := [d2, d1]) (vs2 := [u, v]) hdx (by simp) (repL_cons g4 (repL_one g2)) rfl q
  | _ :: _ :: _ :: _, _, _, z => exact absurd z (by simp)⟩

/-! ### e.f of a caught error -/
def XfTab (K : PySem.W.Frag) (f : Str) : List Str → Prop := AllC fun C => XfC K (He.ga K C) ∧ PySem.W.findIn K (.ref (He.ga K C)) f = some none
def dXF (p : Addr) (dd : Option Addr) (x : XD) (cs : List Str) (f : Str) (da : DTE) : DTE := fun G M k kx => da G M (fun o M1 => match o with
  | .xo a d2 C ns ds => a = p ∧ d2 = dd ∧ C = x.C ∧ C ∈ cs ∧ (match lookD f ns ds with
    | some d => k d M1
    | none => False)
  | _ => False) kx
theorem lookD_ne {f : Str} {ns : List Str} {ds : List D} {d : D} (h : lookD f ns ds = some d) : ns ≠ [] := by
  rintro rfl
  cases h
theorem we_xf {p : Addr} {oe : Obj} {dd : Option Addr} {pn : List (Addr × Obj)} {x : XD} {cs : List Str} {f : Str} (T : XfTab X.K f cs) (hz : Zc (.ref (He.ga X.K x.C)) dd oe) (hv : ∃ vs, oe.data = .fields vs) (he : WE (X.suite p ((p, oe) :: pn)) e da)
    (hb : attributeBase e f X.env (eval e X.env) = eval e X.env := by rfl) : WE (X.suite p ((p, oe) :: pn)) (.Attribute e f pos) (dXF p dd x cs f da) := ⟨fun {s H as G M k kx Q} st hd tk bk => by
  by_cases hC : x.C ∈ cs
  · obtain ⟨T1, T2⟩ := T.at_ hC
    refine PE.sem (pe_xf (cls := .ref (He.ga X.K x.C)) (d := dd) T1 T2 hz hv pe_sem hb) (he.run st hd tk fun v H' as' d' M' n hh r q => ?_)
    cases d' with
    | xo a dd2 C ns ds =>
      obtain ⟨rfl, rfl, rfl, _, q⟩ := q
      have r' : rep X.K (hide as' M' H') (.xo a dd2 x.C ns ds) v := r
      rw [rep] at r'
      obtain ⟨rfl, r'⟩ := r'
      cases e : lookD f ns ds with
      | none => rw [e] at q; exact q.elim
      | some d =>
        rw [e] at q
        rcases r' with z | ⟨d3, vs, e1, e2, e3, e4⟩
        · exact absurd z (lookD_ne e)
        · obtain ⟨u, g1, g2⟩ := lookD_zip e3 d e
          exact ⟨rfl, rfl, d3, _, u, e1, hide_ex _ _ e2, g1, bk u H' as' d M' n hh (repX_of g2) q⟩
    | _ => exact q.elim
  · intro pins sh I
    refine attr_of hb (thn (he.run (Q := fun _ _ => False) st hd tk (fun v H' as' d' M' n hh r q => ?_) pins sh I) fun u s1 hh => ?_)
    · cases d' with
      | xo a dd2 C ns ds =>
        obtain ⟨_, _, rfl, z, _⟩ := q
        exact hC z
      | _ => exact q.elim
    · obtain ⟨_, _, _, _, z⟩ := hh
      exact z.elim⟩
/-- isinstance(e, c), e a caught error, with fields or without -/
def cIsiX (t : ITab) (a : Addr) (dd : Option Addr) (x : XD) : DCl := fun ds M k => match ds with
  | [.xo a' d2 C' n' _, c] => a' = a ∧ d2 = dd ∧ C' = x.C ∧ n' = x.ns ∧ (match clsD c with
    | some b => (match findI (.own x.C) b t with
      | some r => k (.bl r) M
      | none => False)
    | none => False)
  | _ => False
theorem call_isEX {X : Cx} {a C dx : Addr} {oe : Obj} {pn : List (Addr × Obj)} (T : ExcC X.K C) (hz : Zc (.ref C) (some dx) oe) (hf : ∃ vs, oe.data = .fields vs) : CallR (X.suite a ((a, oe) :: pn)) (.builtin "isinstance")
    (fun xs H Q => ∃ (c : V) (cv : Value) (b : Bool) (fs : List (Str × V)), xs = [.ref a, c] ∧ H dx = some (.xd fs) ∧ (∀ u, RelV c u → u = cv) ∧ PySem.W.kitOne X.K (.ref C) cv = some b ∧ Q (.bl b) H) := by
  intro pins s σ H xs us Q I r h
  obtain ⟨c, cv, b, fs, rfl, hd, hcv, e, q⟩ := h
  cases r with
  | cons rx rr =>
    cases rr with
    | cons rt rr =>
      cases rr
      cases rx
      have ec := hcv _ rt
      subst ec
      obtain ⟨hget, _⟩ := I.pin (a, oe) (List.mem_append.mpr (.inl List.mem_cons_self))
      obtain ⟨vs, hv⟩ := hf
      have hx : ObjOk X.prog X.w H s.heap dx (.xd fs) := I.hok dx _ hd
      obtain ⟨mA, ⟨od, _, _, ho, _⟩, _⟩ := hx
      have J : PySem.W.InstAt s.heap a oe C (some od) := by
        obtain ⟨oc, od2, oda, osl⟩ := oe
        obtain ⟨h1, h2⟩ := hz
        dsimp only at h1 h2 hv
        subst h1 h2 hv
        exact ⟨hget, rfl, rfl, ho⟩
      exact PySem.W.kia_one (PySem.W.kitx_exc (by obtain ⟨cd, hc, _⟩ := PySem.W.any_some T.hd; rw [hc]; rfl) T.hg T.hk T.hs T.ha T.hn T.ht T.hm) I.kIn J e (fun z => nomatch z) fun tk => ⟨.bl b, H, I.kept (t' := tk) fun _ _ z => z, rfl, q⟩
theorem cd_isiX {t : ITab} {p : Addr} {oe : Obj} {dd : Option Addr} {pn : List (Addr × Obj)} {x : XD} (T : ETOk X.K t) (hz : Zc (.ref (He.ga X.K x.C)) dd oe) (hv : ∃ vs, oe.data = .fields vs) (hn : x.ns = [] → dd = none) :
    CallD (X.suite p ((p, oe) :: pn)) (.builtin "isinstance") (coR (cIsiX t p dd x)) := by
  intro s H as G M ds vs k kx Q pins sh us st rx hf tk bk I ru
  unfold coR cIsiX at hf
  split at hf
  · rename_i a' dd' C' ns' ds' c
    obtain ⟨rfl, rfl, rfl, rfl, hf⟩ := hf
    obtain ⟨v, w, rfl, r1, r2⟩ := rXs2 rx
    split at hf
    · rename_i b eb
      split at hf
      · rename_i r er
        obtain ⟨g1, g2⟩ := T.at_ er
        have hcl : ∀ u, RelV w u → u = isTv X.K b := fun u hu => by
          unfold clsD at eb
          split at eb
          · cases eb
            have r2 : rep X.K (hide as M H) (.ty _) w := r2
            rw [rep] at r2
            subst r2
            exact hu
          · cases eb
            have r2 : rep X.K (hide as M H) (.cls _) w := r2
            rw [rep] at r2
            subst r2
            exact hu
          · cases eb
        have r1 : rep X.K (hide as M H) (.xo a' dd' x.C x.ns ds') v := r1
        rw [rep] at r1
        obtain ⟨rfl, r9⟩ := r1
        have qq := bk _ H as _ M Nx.refl st.hold (repX_bl.mpr rfl) hf
        cases dd' with
        | none => exact call_isE g2 hz hv pins sh s H [.ref a', w] us Q I ru ⟨w, isTv X.K b, r, rfl, hcl, g1, qq⟩
        | some d0 =>
          refine Or.elim r9 (fun z => nomatch hn z) fun ⟨d1, vs1, e1, e2, e3, e4⟩ => ?_
          cases e1
          exact call_isEX g2 hz hv pins sh s H [.ref a', w] us Q I ru ⟨w, isTv X.K b, r, _, rfl, hide_ex _ _ e2, hcl, g1, qq⟩
      · exact hf.elim
    · exact hf.elim
  · exact hf.elim
end
/-! ### raise C() -/
theorem pmk_ownZ {X : Cx} {C : Addr} {bmB : List Value} {B newId initId : String} {x : Str} {p pos : Pos} (F : ExcBaseFacts B newId initId bmB) (q : PySem.W.excIn X.K C bmB newId = true) (gC : X.mg x = some (.ref C))
    (kC : PySem.W.keepIn X.K (.ref C) = true) (r : Raises X (.ref C)) (hg : Gl X x) (hdb : (x == ("__debug__" : Str)) = false := by decide) :
    PMk X (.Call (.Name x p) [] [] pos) (fun σ H Q => Q (.ref C) none H) := by
  intro pins s σ H Q I h
  refine wpAny_Call_Name_kw (ld_glob I hg gC ?_ hdb)
  refine PySem.W.callWith_K0 I.kIn kC ?_
  show wpAny _ _ (call (.ref C) []) _ _ _
  obtain ⟨bm, N, nm, qn, bs, hdct, sn, sub, ab, col, dd, k0, k1, k2, k3, k5, mN, hC, hN, hni, T⟩ := exc_obj I.kIn q
  refine wpAny_call_exc_subT F T hC hN hni (fun h' e hm => ?_) (Nat.zero_le _)
  exact mk_of I hm r h (I.hok.gone hm.new)
theorem w1_raise0 {X : Cx} {x : Str} {p p3 pos : Pos} (hc : X.calm = true) (F : OkE X.K X.mg x) (hg : Gl X x) (hdb : (x == ("__debug__" : Str)) = false := by decide) : W1 X (.Raise (some (.Call (.Name x p) [] [] p3)) none pos) (dRaise x) := ⟨fun {s H as G M D DE} stt hd tk rd =>
  PS.sem (ps_raise hc tk (pmk_ownZ PySem.F.excBase_ValueError F.ex F.mg F.kp (raises_own F.sb F.ty) hg hdb)) ⟨_, G, as, M, Nx.refl, stt, ⟨rfl, Or.inl ⟨rfl, rfl⟩⟩, hd⟩⟩

/-! ### facts -/
def oexB (K : PySem.W.Frag) (C : Addr) : Bool := match K.lookup C with
  | some ⟨.type "type", _, .cls cd, sl⟩ => (match cd.mro, sl.toList with
    | .ref C' :: bm, [_, _, _, _, some (.builtin n), _] => C' == C && n == "ValueError.__new__" && !cd.hasDel && cd.hasDict && PySem.HandSPX.refsVE bm
    | _, _ => false)
  | _ => false
theorem oexB_ok {K : PySem.W.Frag} {C : Addr} (q : oexB K C = true) : ∃ nm q N bs bm sn sub ab col dd k0 k1 k2 k3 k5, K.lookup C = some (excClassObj nm q C N bs bm true sn sub ab col dd k0 k1 k2 k3 k5 "ValueError.__new__") ∧ PySem.HandSPX.refsVE bm = true := by
  unfold oexB at q
  split at q
  · rename_i dd cd sl ho
    split at q
    · rename_i C' bm k0 k1 k2 k3 n k5 hm hs
      simp only [Bool.and_eq_true, beq_iff_eq, Bool.not_eq_true'] at q
      obtain ⟨⟨⟨⟨rfl, rfl⟩, hdel⟩, hdi⟩, ht⟩ := q
      obtain ⟨nm, bs, mro, ns, qn, hd, sn, sub, ab, col, del⟩ := cd
      dsimp only at hm hdel hdi
      subst hm hdel hdi
      have hsl : sl = #[k0, k1, k2, k3, some (.builtin "ValueError.__new__"), k5] := by
        obtain ⟨l⟩ := sl
        simp only at hs
        rw [hs]
      subst hsl
      exact ⟨nm, qn, ns, bs, bm, sn, sub, ab, col, dd, k0, k1, k2, k3, k5, ho, ht⟩
    · cases q
  · cases q
def fXC (C : Str) (fs : List Str) : Fact := fun K => oexB K (He.ga K C) && (He.eqO (PySem.W.findIn K (.ref (He.ga K C)) "__setattr__") (some (some (.builtin "object.__setattr__"))) && (decide (PySem.W.subIn K (.ref (He.ga K C)) (.type "BaseException") = some true) && (decide (PySem.W.typeIn K (.ref (He.ga K C)) = some (.type "type")) &&
  (PySem.W.keepIn K (.ref (He.ga K C)) && (decide (PySem.W.mroIn K (He.ga K C) (.ref (He.ga K C)) = some true) && (He.eqO (PySem.W.ks_superIn K (He.ga K C) (He.ga K C) "__init__") (some (some (.builtin "ValueError.__init__"))) && (decide (PySem.W.subIn K (.ref (He.ga K C)) (.type "ValueError") = some true) &&
  (He.eqO (PySem.W.nsIn K cStatics "thirdparty.any") (some none) && (He.eqO (PySem.W.findIn K (.ref (He.ga K C)) "__init__") (some (some (.ref (He.ma K (He.ga K C) "__init__")))) && (decide (PySem.W.typeIn K (.ref (He.ma K (He.ga K C) "__init__")) = some (.type "function")) && fs.all fun f => He.eqO (PySem.W.findIn K (.ref (He.ga K C)) f) (some none)))))))))))
structure OkXF (K : PySem.W.Frag) (C : Str) (fs : List Str) : Prop where
  xc : OkXC K (He.ga K C) (He.ga K C)
  ini : PySem.W.findIn K (.ref (He.ga K C)) "__init__" = some (some (.ref (He.ma K (He.ga K C) "__init__")))
  ty : PySem.W.typeIn K (.ref (He.ma K (He.ga K C) "__init__")) = some (.type "function")
  no : ∀ f ∈ fs, PySem.W.findIn K (.ref (He.ga K C)) f = some none
theorem Txt.xf {P : Program} {fs : List Fact} {fn : List DD} {K : PySem.W.Frag} {mg : Str → Option Value} (t : Txt P fs fn K mg) (i : Nat) {C : Str} {l : List Str} (h : fs[i]? = some (fXC C l) := by rfl) : OkXF K C l := by
  have c := t.fact i h
  unfold fXC at c
  simp only [Bool.and_eq_true, decide_eq_true_eq, List.all_eq_true] at c
  obtain ⟨c1, c2, c3, c4, c5, c6, c7, c8, c9, c10, c11, c12⟩ := c
  exact ⟨⟨⟨oexB_ok c1, He.eqO_ok c2, c3, c4, c5⟩, c6, He.eqO_ok c7, c8, He.eqO_ok c9⟩, He.eqO_ok c10, c11, fun f hf => He.eqO_ok (c12 f hf)⟩
/-- e.f for the classes cs -/
def fXfT (C f : Str) : Fact := fun K => xfB K (He.ga K C) && He.eqO (PySem.W.findIn K (.ref (He.ga K C)) f) (some none)
theorem Txt.xft {P : Program} {fs : List Fact} {fn : List DD} {K : PySem.W.Frag} {mg : Str → Option Value} (t : Txt P fs fn K mg) (i : Nat) {C f : Str} (h : fs[i]? = some (fXfT C f) := by rfl) : XfC K (He.ga K C) ∧ PySem.W.findIn K (.ref (He.ga K C)) f = some none := by
  have c := t.fact i h
  unfold fXfT at c
  rw [Bool.and_eq_true] at c
  exact ⟨xfB_ok c.1, He.eqO_ok c.2⟩
/-- the def at p of the text stands in the class C and names it -/
def supB (K : PySem.W.Frag) (f : Addr) (C : Addr) (file : Str) : Bool := match K.lookup f with
  | some ⟨_, _, .func z, _⟩ => (match z.closure, z.code with
    | [(n, cc)], .ref cda => decide (n = ("__class__" : Str)) && ((match K.lookup cc with
      | some ⟨_, _, .cell (some (.ref D)), _⟩ => decide (D = C)
      | _ => false) && (match K.lookup cda with
      | some ⟨_, _, .fields vs, _⟩ => (match (show Option Value from vs[2]?) with
        | some (.str fl _) => decide (fl = file)
        | _ => false)
      | _ => false))
    | _, _ => false)
  | _ => false
def fSup (p : Str × Option Str) (C : Str) : Fact := fun K => supB K (He.fAd K p) (He.ga K C) pgFile && (PySem.W.clsIn K (He.ga K C)).isSome
theorem supB_ok {K : PySem.W.Frag} {f C : Addr} {file : Str} {oc : Value} {od : Option Addr} {z : FuncData} {osl : Array (Option Value)} (lk : K.lookup f = some ⟨oc, od, .func z, osl⟩) (c : supB K f C file = true) :
    ∃ cda cc, z.closure = [(("__class__" : Str), cc)] ∧ z.code = .ref cda ∧ (∃ cl cld csl, K.lookup cc = some ⟨cl, cld, .cell (some (.ref C)), csl⟩) ∧ ∃ ccl cdd vs ccs tf, K.lookup cda = some ⟨ccl, cdd, .fields vs, ccs⟩ ∧ vs[2]? = some (.str file tf) := by
  unfold supB at c
  rw [lk] at c
  simp only at c
  split at c
  · rename_i n cc cda e1 e2
    rw [Bool.and_eq_true, Bool.and_eq_true] at c
    obtain ⟨c1, c2, c3⟩ := c
    have c1 := of_decide_eq_true c1
    subst c1
    refine ⟨cda, cc, e1, e2, ?_, ?_⟩
    · split at c2
      · rename_i a b D d e
        have c2 := of_decide_eq_true c2
        subst c2
        exact ⟨_, _, _, e⟩
      · cases c2
    · split at c3
      · rename_i a b vs d e
        split at c3
        · rename_i fl tf e3
          have c3 := of_decide_eq_true c3
          subst c3
          exact ⟨_, _, vs, _, tf, e, e3⟩
        · cases c3
      · cases c3
  · cases c
theorem Txt.sup {P : Program} {fs : List Fact} {fn : List DD} {K : PySem.W.Frag} {mg : Str → Option Value} (t : Txt P fs fn K mg) (i j : Nat) {d : DD} {C : Str} (h : fn[i]? = some d := by rfl) (hf : fs[j]? = some (fSup d.at_ C) := by rfl) (hcl : d.clo = true := by rfl) (hvia : d.via = none := by rfl) (hdv : d.dvs K = [] := by rfl) :
    ∃ fd cda cc, SupD K pgFile d.name d.qual d.params d.body d.scope (adD K d) fd (He.ga K C) cda cc ∧ ∀ ps : List Str, (∀ (kV doc pm : Value) (an : Option Addr) (ct : Value) (us : List Value), us.length = ps.length → bindArgs (PySem.W.ksFn d.name d.qual d.params d.body d.scope .none kV doc pm an (.ref cda) ct cc) ⟨us, []⟩ = pure (ps.zip us)) → Binds K fd ps [] := by
  have c := t.fact j hf
  unfold fSup at c
  rw [Bool.and_eq_true] at c
  obtain ⟨c1, c2⟩ := c
  have c3 := (Bool.and_eq_true_iff.mp (show ((fs.all fun f => f K) && fn.all fun d => goodD K d) = true from congrArg (fun z : He.AlD => z.1) t.says)).2
  have e : fn.map (fun d => seenD K d) = fn.map fun d => d.val := congrArg (fun z : He.AlD => z.2) t.says
  have e2 : (fn.map fun d => seenD K d)[i]? = (fn.map fun d => d.val)[i]? := by rw [e]
  rw [List.getElem?_map, List.getElem?_map, h] at e2
  have e3 : seenD K d = d.val := Option.some.inj e2
  have g := List.all_eq_true.mp c3 d (List.mem_of_getElem? h)
  have ea : adD K d = He.fAd K d.at_ := by
    unfold adD
    rw [hvia]
  unfold goodD at g
  rw [Bool.and_eq_true] at g
  obtain ⟨keep, g⟩ := g
  unfold seenD at e3
  rw [hcl] at e3
  cases look : K.lookup (adD K d) with
  | none => rw [look] at g; cases g
  | some ob =>
    rw [look] at g e3
    obtain ⟨oc, od, dt, osl⟩ := ob
    cases dt with
    | func z =>
      rw [ea] at look
      obtain ⟨cda, cc, s1, s2, s3, s4⟩ := supB_ok look c1
      obtain ⟨a1, a2, a3, a4, a5, a6, a7, a8, a9, a10, a11, a12, a13, a14, a15⟩ := z
      have g2 : (PySem.W.codeIn K a13 d.qual && (He.dflB K a8 (d.dvs K) && He.kwdB K a9 (d.kws K))) = true := g
      rw [Bool.and_eq_true, Bool.and_eq_true] at g2
      have e4 : (some (a1, a2, a3, a4, a5, a6, (if true = true then [] else a7), a15) : He.FnW) = some (d.name, d.qual, d.params, .stmts d.body, d.scope, mainGlobals, [], builtinsNs) := e3
      simp only [Option.some.injEq, Prod.mk.injEq] at e4
      obtain ⟨w1, w2, w3, w4, w5, w6, w7, w8⟩ := e4
      have s1 : a7 = [(("__class__" : Str), cc)] := s1
      have s2 : a13 = .ref cda := s2
      subst w1 w2 w3 w4 w5 w6 w8 s1 s2
      rw [ea]
      have hdf := He.dflB_ok g2.2.1
      rw [hdv] at hdf
      rcases hdf with ⟨_, rfl⟩ | ⟨z, _⟩
      · exact ⟨_, cda, cc, ⟨⟨oc, od, .none, a9, a10, a11, a12, a14, osl, rfl, look⟩, g2.1, s3, s4, Option.isSome_iff_exists.mp c2⟩, fun ps hb => .all (hb a9 a10 a11 a12 a14)⟩
      · exact absurd rfl z
    | _ => cases g
end DL

/-! DLv: several except clauses, with names or without. -/
namespace DL
open PySem PySem.Spec PyProof.Rows L2 Evl
open Classical

/-- what the clauses wish of an error of the body, one after the other; a clause: its class, the slot of its name, its suite -/
abbrev Hd1 := Value × Option Nat × (Addr → Value → Option Addr → TS)
def wMas (K : PySem.W.Frag) (Wout : WX) (D : Ends) : List Hd1 → WX
  | [] => Wout
  | (c, io, ts) :: r => fun cls d σ H => ∃ b, PySem.W.exmOne K cls c = some b ∧ (b = true → ∀ a, H a = none → (match io with
    | none => ts a cls d D σ H
    | some i => ts a cls d { D with nx := fun σ' H' => D.nx (σ'.set i none) H', bk := fun σ' H' => D.bk (σ'.set i none) H', ct := fun σ' H' => D.ct (σ'.set i none) H' } (σ.set i (some (.ref a))) H)) ∧ (b = false → wMas K Wout D r cls d σ H)
inductive HdsM (X : Cx) : List ExceptHandler → List Hd1 → Prop
  | nil : HdsM X [] []
  | one {x : Str} {c : Value} {ts : Addr → Value → Option Addr → TS} {b₀ : Stmt} {suite : List Stmt} {np pos' : Pos} {hds : List ExceptHandler} {l : List Hd1} (hc : Names X x c)
      (hsu : ∀ (a : Addr) (oe : Obj) (cls : Value) (d : Option Addr) (pn : List (Addr × Obj)), Zc cls d oe → (∃ vs, oe.data = .fields vs) → PSs (X.suite a ((a, oe) :: pn)) (b₀ :: suite) (ts a cls d)) (r : HdsM X hds l) :
      HdsM X (.ExceptHandler (some (.Name x np)) none (b₀ :: suite) pos' :: hds) ((c, none, ts) :: l)
  | as_ {x n : Str} {i : Nat} {c : Value} {ts : Addr → Value → Option Addr → TS} {b₀ : Stmt} {suite : List Stmt} {np pos' : Pos} {hds : List ExceptHandler} {l : List Hd1} (hc : Names X x c) (hi : X.N[i]? = some n) (hln : X.env.kindOf n = some .local)
      (hsu : ∀ (a : Addr) (oe : Obj) (cls : Value) (d : Option Addr) (pn : List (Addr × Obj)), Zc cls d oe → (∃ vs, oe.data = .fields vs) → PSs (X.suite a ((a, oe) :: pn)) (b₀ :: suite) (ts a cls d)) (r : HdsM X hds l) :
      HdsM X (.ExceptHandler (some (.Name x np)) (some n) (b₀ :: suite) pos' :: hds) ((c, some i, ts) :: l)
section
variable {X : Cx} {body : List Stmt} {h₀ : ExceptHandler} {hds : List ExceptHandler} {l : List Hd1} {pos : Pos} {tb : WX → TS} {Wout : WX}
theorem ps_try_mas (hs : X.stack = X.env :: X.outer) (hf : X.env.frame = some X.env.locals) (hN : X.N.Nodup) (tk : Takes X Wout)
    (hb : ∀ (W : WX) (pn : List (Addr × Obj)) (xe : Value → Shared → Prop), Takes (X.tr pn xe) W → PassesOwn (model X.prog X.w) X.A X.env xe → PSs (X.tr pn xe) body (tb W))
    (hh : HdsM X (h₀ :: hds) l) : PS X (.Try body (h₀ :: hds) [] [] pos) (fun D σ H => tb (wMas X.K Wout D l) D σ H) := by
  refine ⟨fun pins s σ H D I h => ?_⟩
  have ok := I.ok
  have hfr : X.A.frames = some (X.env :: X.outer) := by rw [ok.frames, hs]
  refine wpAny_Try_except ?_
  refine wpAny_mono ((hb (wMas X.K Wout D l) (X.pn ++ pins) (fun e s₁ => wpAny (model X.prog X.w) X.A (noteFrame e X.env) (fun _ s₂ => wpAny (model X.prog X.w) X.A (setFlight e none) (fun _ s₃ =>
    wpAny (model X.prog X.w) X.A (handleBy e X.env (h₀ :: hds)) (SP X pins D) X.xe s₃) X.xe s₂) X.xe s₁) (fun u s' xx => ?_) PassesOwn.looking).run [] s σ H D (I.toTry _) h) (fun f s1 hsp => ?_) (fun e s1 he => he)
  · obtain ⟨a, B, sI, pins', σ', H', cls, d, rfl, J', nb, up, sky, na, os, ag, w⟩ := xx
    have J : Inv X pins σ' H' sI := J'.ofTry ok
    have sky' : Sky B (X.env :: X.outer) a (Zc cls d) X.env.locals s'.heap := by rw [← hs]; exact sky
    show wpAny (model X.prog X.w) X.A (noteFrame (.ref a) X.env) _ _ _
    refine Sky.land Zc.steady hfr hf sky' fun h3 fl3 up3 => ?_
    have J3 : Inv X pins σ' H' { s' with heap := h3 } := J.landed nb fl3.1 (up.trans up3) os ag
    obtain ⟨oe3, vs3, he3, hz3, hd3⟩ := fl3.there
    have notFr : ∀ {h : Heap} {o : Obj} {vs : Array Value}, h.FunFrames B (X.env :: X.outer) → h.get? a = some o → o.data = .fields vs → a ∉ frs (X.env :: X.outer) := fun {h o vs} ff e dd hm => by
      obtain ⟨_, o', e', hnf⟩ := ff.mem hm
      rw [e] at e'; cases e'
      exact hnf _ dd
    have nfr := notFr fl3.2.2.1 he3 hd3
    have nL : a ≠ X.env.locals := fun z => nfr (List.mem_filterMap.mpr ⟨X.env, List.mem_cons_self, by rw [hf, z]⟩)
    have nF : a ∉ X.fs := fun hm => by
      obtain ⟨e, he, q⟩ := List.mem_filterMap.mp hm
      exact nfr (List.mem_filterMap.mpr ⟨e, List.mem_cons_of_mem _ he, q⟩)
    have S3 := J3.suite he3 hd3 na nL nF
    have LT : PySem.W.Looks (model X.prog X.w) h3 (typeOf (.ref a)) cls := fun A Q E s k q => wpAny_typeOf_ref (k _ _ he3) (by rw [hz3.1]; exact q)
    have test : ∀ {x : Str} {c : Value} {np : Pos} {Q : Value → Shared → Prop} {E : Value → Shared → Prop}, Names X x c → Q c { s' with heap := h3 } → wpAny (model X.prog X.w) (X.A.mark (some (.ref a))) (eval (.Name x np) X.env) Q E { s' with heap := h3 } := fun {x c np Q E} hc q => by
      obtain ⟨hg, hdbg, hm | ⟨hm, hv, hnn⟩⟩ := hc
      · exact ld_glob (X := X.suite a ((a, oe3) :: (X.pn ++ pins))) S3 hg hm q hdbg
      · exact ld_blt (X := X.suite a ((a, oe3) :: (X.pn ++ pins))) S3 hg hm hv q hnn hdbg
    have go : ∀ {hds' : List ExceptHandler} {l' : List Hd1}, HdsM X hds' l' → wMas X.K Wout D l' cls d σ' H' →
        wpAny (model X.prog X.w) X.A (handleBy (.ref a) X.env hds') (SP X pins D) X.xe { s' with heap := h3 } := by
      intro hds' l' hk
      induction hk with
      | nil =>
        intro w
        refine wpAny_handleBy_nil ?_
        obtain ⟨k1, k2, k3, oe, vs, T, oT, ts', he, hz, hd, h1, hr⟩ := id fl3
        unfold PySem.passOn
        refine wpAny_bind (wpAny_field he hd h1 ?_)
        rw [if_neg (show ¬ ((Value.ref T == Value.none) = true) from by simp)]
        have fin : wpAny (model X.prog X.w) X.A (setFlight (.ref a) X.env.frame) (fun _ s4 => wpAny (model X.prog X.w) X.A (throw (.ref a) : Sem Flow) (SP X pins D) X.xe s4) X.xe { s' with heap := h3 } := by
          rw [hf]
          refine HandSPX.setFlight_upZ fl3 fun h4 hh4 up4 => wpAny_throw (tk _ _ ?_)
          exact ⟨a, B, sI, pins, σ', H', cls, d, rfl, J, nb, (up.trans up3).trans up4, .inr (.inr (by rw [hs]; exact hh4)), na, os, ag, w⟩
        first
          | exact wpAny_bind (wpAny_pure (wpAny_bind fin))
          | exact wpAny_bind fin
      | @one x c ts b₀ suite np pos' hds2 l2 hc hsu r ih =>
        intro w
        obtain ⟨b, hb1, hyes, hno⟩ := w
        refine wpAny_handleBy_cons (codeAny_handlers_test ?_) (by intro q; cases q)
        have LM := PySem.W.exm_one (M := model X.prog X.w) (J3.kIn) LT hb1
        refine test hc (LM.here ?_)
        cases b with
        | true =>
          refine codeAny_handlers_suite ?_
          refine HandSPX.lands_againZ fl3 fun h4 fl4 up4 => ?_
          have J4 : Inv X pins σ' H' { s' with heap := h4 } := J.landed nb fl4.1 ((up.trans up3).trans up4) os ag
          obtain ⟨oe4, vs4, he4, hz4, hd4⟩ := fl4.there
          have S4 := J4.suite he4 hd4 na nL nF
          refine wpAny_mono ((hsu a oe4 cls d (X.pn ++ pins) hz4 ⟨_, hd4⟩).run [] _ _ H' _ S4 (hyes rfl a na)) (fun f s6 hsp => ?_) (fun _ _ z => False.elim z)
          cases f with
          | next =>
            obtain ⟨σ6, H6, S6, q6⟩ := hsp
            exact ⟨_, _, S6.unsuite ok, q6⟩
          | brk =>
            obtain ⟨σ6, H6, S6, q6⟩ := hsp
            exact ⟨_, _, S6.unsuite ok, q6⟩
          | cont =>
            obtain ⟨σ6, H6, S6, q6⟩ := hsp
            exact ⟨_, _, S6.unsuite ok, q6⟩
          | ret u =>
            obtain ⟨v6, σ6, H6, S6, r6, q6⟩ := hsp
            exact ⟨_, _, _, S6.unsuite ok, r6, q6⟩
        | false =>
          show wpAny _ X.A (handleBy (.ref a) X.env hds2) _ _ _
          exact ih (hno rfl)
      | @as_ x n i c ts b₀ suite np pos' hds2 l2 hc hi hln hsu r ih =>
        intro w
        obtain ⟨b, hb1, hyes, hno⟩ := w
        have hloc : Loc X.env.scope n := .inl hln
        refine wpAny_handleBy_cons (codeAny_handlers_test ?_) (by intro q; cases q)
        have LM := PySem.W.exm_one (M := model X.prog X.w) (J3.kIn) LT hb1
        refine test hc (LM.here ?_)
        cases b with
        | true =>
          refine codeAny_handlers_suite_as ?_
          refine HandSPX.lands_againZ fl3 fun h4 fl4 up4 => ?_
          have J4 : Inv X pins σ' H' { s' with heap := h4 } := J.landed nb fl4.1 ((up.trans up3).trans up4) os ag
          obtain ⟨oe4, vs4, he4, hz4, hd4⟩ := fl4.there
          have S4 := J4.suite he4 hd4 na nL nF
          refine store_ok (X := X.suite a ((a, oe4) :: (X.pn ++ pins))) (v := .ref a) S4 hN hi hloc rfl (fun s5 S5 => ?_) (.inr hln)
          refine wpAny_mono ((hsu a oe4 cls d (X.pn ++ pins) hz4 ⟨_, hd4⟩).run [] s5 _ H' _ S5 (hyes rfl a na)) (fun f s6 hsp => ?_) (fun _ _ z => False.elim z)
          have end_ : ∀ {σ6 : L2.St} {H6 : Hp} {Q : Shared → Prop}, Inv (X.suite a ((a, oe4) :: (X.pn ++ pins))) [] σ6 H6 s6 → (∀ s7, Inv X pins (σ6.set i none) H6 s7 → Q s7) →
              wpAny (model X.prog X.w) X.A (do bindName X.env n .none; unbindBehindTheSuite X.env n pos') (fun _ s7 => Q s7) X.xe s6 := fun {σ6 H6 Q} S6 hq => gone_ok (S6.unsuite ok) hN hi hln hq
          cases f with
          | next =>
            obtain ⟨σ6, H6, S6, q6⟩ := hsp
            exact end_ S6 fun s7 J7 => ⟨_, _, J7, q6⟩
          | brk =>
            obtain ⟨σ6, H6, S6, q6⟩ := hsp
            exact end_ S6 fun s7 J7 => ⟨_, _, J7, q6⟩
          | cont =>
            obtain ⟨σ6, H6, S6, q6⟩ := hsp
            exact end_ S6 fun s7 J7 => ⟨_, _, J7, q6⟩
          | ret u =>
            obtain ⟨v6, σ6, H6, S6, r6, q6⟩ := hsp
            exact end_ S6 fun s7 J7 => ⟨_, _, _, J7, r6, q6⟩
        | false =>
          show wpAny _ X.A (handleBy (.ref a) X.env hds2) _ _ _
          exact ih (hno rfl)
    exact go hh w
  · cases f with
    | next =>
      obtain ⟨σ', H', J', q⟩ := hsp
      exact wpAny_execs_nil ⟨σ', H', J'.ofTry ok, q⟩
    | brk =>
      obtain ⟨σ', H', J', q⟩ := hsp
      exact ⟨σ', H', J'.ofTry ok, q⟩
    | cont =>
      obtain ⟨σ', H', J', q⟩ := hsp
      exact ⟨σ', H', J'.ofTry ok, q⟩
    | ret u =>
      obtain ⟨v, σ', H', J', r, q⟩ := hsp
      exact ⟨v, σ', H', J'.ofTry ok, r, q⟩
end

/-! ### the reading -/
/-- one clause: which classes it takes, the slot of its name, its suite -/
structure Cl where
  t : List (Str × Bool)
  io : Option Nat
  su : Addr → Option Addr → XD → DTS
def clsD1 (D : DEnds) : List Cl → XD → Gm → Ms → Prop
  | [], x, G, M => D.ex x G M
  | c :: r, x, G, M => match c.t.lookup x.C with
    | some true => ∀ a dd, (match c.io with
      | none => c.su a dd x { D with ex := exNo } G M
      | some i => c.su a dd x ⟨fun G2 => D.nx (G2.set i none), D.rt, fun G2 => D.bk (G2.set i none), fun G2 => D.ct (G2.set i none), exNo⟩ (G.set i (some (.xo a dd x.C x.ns x.ds))) M)
    | some false => clsD1 D r x G M
    | none => False
def dTryM (body : DTS) (cs : List Cl) : DTS := fun D G M => body { D with ex := clsD1 D cs } G M
inductive WHs (X : Cx) : List ExceptHandler → List Cl → Prop
  | nil : WHs X [] []
  | one {y : Str} {t : List (Str × Bool)} {su : Addr → Option Addr → XD → DTS} {b₀ : Stmt} {suite : List Stmt} {np pos' : Pos} {hds : List ExceptHandler} {l : List Cl} (hy : Names X y (.ref (He.ga X.K y))) (ht : Exms X.K y t)
      (hsu : ∀ a oe d pn (x : XD), Zc (.ref (He.ga X.K x.C)) d oe → (∃ vs, oe.data = .fields vs) → (x.ns = [] → d = none) → WS (X.suite a ((a, oe) :: pn)) (b₀ :: suite) (su a d x)) (r : WHs X hds l) :
      WHs X (.ExceptHandler (some (.Name y np)) none (b₀ :: suite) pos' :: hds) (⟨t, none, su⟩ :: l)
  | as_ {y n : Str} {i : Nat} {t : List (Str × Bool)} {su : Addr → Option Addr → XD → DTS} {b₀ : Stmt} {suite : List Stmt} {np pos' : Pos} {hds : List ExceptHandler} {l : List Cl} (hi : X.N[i]? = some n) (hln : X.env.kindOf n = some .local) (hy : Names X y (.ref (He.ga X.K y))) (ht : Exms X.K y t)
      (hsu : ∀ a oe d pn (x : XD), Zc (.ref (He.ga X.K x.C)) d oe → (∃ vs, oe.data = .fields vs) → (x.ns = [] → d = none) → WS (X.suite a ((a, oe) :: pn)) (b₀ :: suite) (su a d x)) (r : WHs X hds l) :
      WHs X (.ExceptHandler (some (.Name y np)) (some n) (b₀ :: suite) pos' :: hds) (⟨t, some i, su⟩ :: l)
def hdOf (X : Cx) : List ExceptHandler → List Cl → List Hd1
  | .ExceptHandler (some (.Name y _)) _ suite _ :: hds, c :: l => (.ref (He.ga X.K y), c.io, fun a cls d => fun DE s H => ∀ oe pn, Zc cls d oe → (∃ vs, oe.data = .fields vs) → semB (X.suite a ((a, oe) :: pn)) suite DE s H) :: hdOf X hds l
  | _, _ => []
section
variable {X : Cx}
theorem WHs.hds {hds : List ExceptHandler} {l : List Cl} (h : WHs X hds l) : HdsM X hds (hdOf X hds l) := by
  induction h with
  | nil => exact .nil
  | one hy ht hsu r ih => exact .one hy (fun a oe cls d pn hz hv => ⟨fun pins sh σ H D I h => h oe pn hz hv pins sh I⟩) ih
  | as_ hi hln hy ht hsu r ih => exact .as_ hy hi hln (fun a oe cls d pn hz hv => ⟨fun pins sh σ H D I h => h oe pn hz hv pins sh I⟩) ih
theorem w1_tryM {body : List Stmt} {h₀ : ExceptHandler} {hds : List ExceptHandler} {l : List Cl} {pos : Pos} {db : DTS} (hs : X.stack = X.env :: X.outer) (hf : X.env.frame = some X.env.locals) (hN : X.N.Nodup)
    (hb : ∀ pn xe, PassesOwn (model X.prog X.w) X.A X.env xe → WS (X.tr pn xe) body db) (hh : WHs X (h₀ :: hds) l) :
    W1 X (.Try body (h₀ :: hds) [] [] pos) (dTryM db l) := ⟨fun {s H as G M D DE} stt hd tk rd =>
  PS.sem (ps_try_mas (tb := tBody X body) hs hf hN tk (fun W pn xe tk' hp => ⟨fun pins sh σ H D I h => h pn xe tk' hp pins sh I⟩) hh.hds) fun pn xe tk' hp =>
    (hb pn xe hp).run stt hd (tk'.imp fun cls dd s' H' ⟨x, G', as', M', n, st', xc, q⟩ => by
      have key : ∀ {hds : List ExceptHandler} {l : List Cl}, WHs X hds l → clsD1 D l x G' M' → wMas X.K (XW X.K as M H D.ex) DE (hdOf X hds l) cls dd s' H' := by
        intro hds l hw
        induction hw with
        | nil => exact fun q => ⟨x, G', as', M', n, st', xc, q⟩
        | @one y t su b₀ suite np pos' hds l hy ht hsu r ih =>
          intro q
          unfold clsD1 at q
          split at q
          · rename_i e
            refine ⟨true, by rw [xc.1]; exact ht.at_ e, fun _ a _ oe pn2 hz hv => ?_, fun z => Bool.noConfusion z⟩
            have hz' : Zc (.ref (He.ga X.K x.C)) dd oe := by rw [← xc.1]; exact hz
            refine (hsu a oe dd pn2 x hz' hv (fun z => by
              rcases xc.2 with w | w
              · exact w.2
              · exact absurd z w.1)).run st' (q a dd) (takesF ?_) ⟨fun s3 H3 as3 G3 M3 n3 => rd.nx s3 H3 as3 G3 M3 (n.trans n3), fun s3 H3 as3 G3 M3 n3 => rd.bk s3 H3 as3 G3 M3 (n.trans n3), fun s3 H3 as3 G3 M3 n3 => rd.ct s3 H3 as3 G3 M3 (n.trans n3), rd.rt.nx n⟩
            rintro _ _ _ _ ⟨_, _, _, _, _, _, _, z⟩
            exact z
          · rename_i e
            exact ⟨false, by rw [xc.1]; exact ht.at_ e, fun z => Bool.noConfusion z, fun _ => ih q⟩
          · exact q.elim
        | @as_ y nm i t su b₀ suite np pos' hds l hi hln hy ht hsu r ih =>
          intro q
          unfold clsD1 at q
          split at q
          · rename_i e
            refine ⟨true, by rw [xc.1]; exact ht.at_ e, fun _ a _ oe pn2 hz hv => ?_, fun z => Bool.noConfusion z⟩
            have hz' : Zc (.ref (He.ga X.K x.C)) dd oe := by rw [← xc.1]; exact hz
            have rx : repX X.K as' (hide as' M' H') (.xo a dd x.C x.ns x.ds) (.ref a) := repX_of (by rw [rep]; exact ⟨rfl, xc.2.imp (fun z => z.1) (fun z => z.2)⟩)
            have un : ∀ {s3 : L2.St} {H3 : Hp} {as3 : AS} {G3 : Gm} {M3 : Ms}, Stt X.K as3 G3 M3 s3 H3 → Stt X.K as3 (G3.set i none) M3 (s3.set i none) H3 := fun h => ⟨h.hold, h.slots.none⟩
            refine (hsu a oe dd pn2 x hz' hv (fun z => by
              rcases xc.2 with w | w
              · exact w.2
              · exact absurd z w.1)).run (st'.set rx) (q a dd) (takesF ?_) ⟨fun s3 H3 as3 G3 M3 n3 z q3 => rd.nx _ H3 as3 _ M3 (n.trans n3) (un z) q3, fun s3 H3 as3 G3 M3 n3 z q3 => rd.bk _ H3 as3 _ M3 (n.trans n3) (un z) q3, fun s3 H3 as3 G3 M3 n3 z q3 => rd.ct _ H3 as3 _ M3 (n.trans n3) (un z) q3, rd.rt.nx n⟩
            rintro _ _ _ _ ⟨_, _, _, _, _, _, _, z⟩
            exact z
          · rename_i e
            exact ⟨false, by rw [xc.1]; exact ht.at_ e, fun z => Bool.noConfusion z, fun _ => ih q⟩
          · exact q.elim
      exact key hh q) ⟨rd.nx, rd.bk, rd.ct, rd.rt⟩⟩
/-! ### is not True -/
theorem op_isNotAny : OpR X (compareOp .IsNot) (fun x y H Q => ∃ b, y = .bl b ∧ Q (.bl (!decide (x = .bl b))) H) := by
  intro pins s σ H x y v u Q I rx ry h
  obtain ⟨b, rfl, q⟩ := h
  cases (show u = Value.bool b from ry)
  have e : isSame v (.bool b) = pure (v == Value.bool b) := by
    cases x <;> first
      | (cases rx; rfl)
      | (obtain ⟨t, rfl⟩ := rx; rfl)
  have e2 : (v == Value.bool b) = decide (x = .bl b) := by
    cases x with
    | bl c =>
      cases (show v = Value.bool c from rx)
      by_cases z : c = b <;> simp [z]
    | _ => first
      | (cases rx; rfl)
      | (obtain ⟨t, rfl⟩ := rx; rfl)
  show wpAny _ _ (isSame v (.bool b) >>= fun r => pure (Value.bool (!r))) _ _ _
  rw [e]
  refine wpAny_bind (wpAny_pure (wpAny_pure ?_))
  exact ⟨.bl (!decide (x = .bl b)), H, I, by rw [e2]; rfl, q⟩
theorem od_isNot : OpD X (compareOp .IsNot) fIsNot := by
  intro s H as G M x y dx dy k kx Q pins sh u v st rx ry hf tk b I ru rv
  obtain ⟨nr, hf⟩ := hf
  cases dy with
  | non =>
    refine op_notN pins sh s H x y u v Q I ru rv ⟨repX_non.mp ry, ?_⟩
    rw [repX_ne_non rx]
    cases dx <;> first
      | exact b _ H as _ M Nx.refl st.hold (repX_bl.mpr rfl) hf
      | cases nr
  | bl c =>
    refine op_isNotAny pins sh s H x y u v Q I ru rv ⟨c, repX_bl.mp ry, ?_⟩
    rw [repX_ne_bl rx]
    cases dx <;> first
      | exact b _ H as _ M Nx.refl st.hold (repX_bl.mpr rfl) hf
      | cases nr
  | _ => cases dx <;> exact hf.elim
/-- a tuple of names, the fragment named ahead (comprehensions) -/
theorem wg_tupK {pos : Pos} {es : List Expr} {kk : Nat} {bs : List DBd} {ts : List Nat} {gs : TGs} (K0 : PySem.W.Frag) (hK : X.K = K0) (hc : X.calm = true) (h : WGs X es gs ts bs) (hn : (assignEach es X.env).length = bs.length := by rfl) (hst : (assignEach es X.env).findIdx? (·.1) = none := by rfl) :
    WG X (.Tuple es kk pos) (gTup K0 bs.length gs) ts (bTup bs) := by
  subst hK
  exact wg_tup' hc h hn hst
end
end DL

/-! DLw: xs.index(x); sorted of pairs; methods that hand out a list of their own. -/
namespace DL
open PySem PySem.Spec PyProof.Rows L2 Evl
open Classical

/-! ### xs.index(x) -/
def idxD (ds : List D) (x : D) : Option Nat := ds.findIdx? fun d => eqS d x
def dIndex (da dv : DTE) : DTE := fun G M k kx => da G M (fun o M1 => (lisD M1 o).isSome = true ∧ dv G M1 (fun x M2 => match lisD M2 o with
  | some ds => scalD x = true ∧ ds.all scalD = true ∧ (match idxD ds x with
    | some j => k (.int j) M2
    | none => False)
  | none => False) kx) kx
section
variable {X : Cx} {K : PySem.W.Frag} {as as1 : AS} {M M1 : Ms} {H H1 : Hp} {G : Gm} {s : L2.St} {kx : DX} {k : DK} {Q : VK} {a b c e : Expr} {da db dc : DTE}
theorem we_index {o : Expr} {dv : DTE} {apos cpos : Pos} (ho : WE X o da) (he : WE X e dv)
    (hbase : attributeBase o "index" X.env (eval o X.env) = eval o X.env := by rfl)
    (hfew : ((backTo cpos (starEach (e :: []) X.env)).all (fun x => !x.1) && (backToKw cpos (keywordEach [] X.env)).all (fun x => x.1.isSome)
      && decide ((e :: []).length + ([] : List Keyword).length + (if ([] : List Keyword).isEmpty then 0 else 1) < 30)) = true := by rfl)
    (hline : (apos.endLine == cpos.line) = true := by rfl) (hs : starEach (e :: []) X.env = (false, eval e X.env) :: starEach [] X.env := by rfl) (hplain : (backTo cpos (starEach [] X.env)).any (·.1) = false := by rfl) :
    WE X (.Call (.Attribute o "index" apos) [e] [] cpos) (dIndex da dv) := ⟨fun {s H as G M k kx Q} stt hd tk bk =>
  PE.sem (pe_bm PySem.F.plainAttrs_list PySem.F.slot_list_index PySem.F.type_list_index mt_index pe_sem (pa_cons pe_sem pa_nil hs) hbase hfew hline hs hplain) (ho.run stt hd tk fun v H1 as1 o1 M1 n1 h1 r1 ⟨lc, q1⟩ => by
    obtain ⟨ds1, em⟩ := Option.isSome_iff_exists.mp lc
    obtain ⟨p, xs, rfl, z2, rl⟩ := lis_at h1 em r1
    refine ⟨Or.inl ⟨rfl, xs, SqL.of z2⟩, ?_⟩
    refine he.run (stt.nx n1 h1) q1 (XW.nx n1 tk) fun v2 H2 as2 d2 M2 n2 h2 r2 q2 => ?_
    cases z : lisD M2 o1 with
    | none => rw [z] at q2; exact q2.elim
    | some ds =>
      rw [z] at q2
      obtain ⟨sx, sd, q2⟩ := q2
      have r1' := repX_nx n2 r1
      obtain ⟨p', ys, e0, z3, rl3⟩ := lis_at h2 z r1'
      cases e0
      cases zj : idxD ds d2 with
      | none => rw [zj] at q2; exact q2.elim
      | some j =>
        rw [zj] at q2
        have rx := scal_rep sx r2
        have hj := List.findIdx?_eq_some_iff_getElem.mp zj
        obtain ⟨hjl, hj1, hj2⟩ := hj
        obtain ⟨z', hz1, hz2⟩ := repL_get rl3 (List.getElem?_eq_getElem hjl)
        have sdj := List.all_eq_true.mp sd
        refine ⟨p, ys, v2, j, z', rfl, rfl, SqL.of z3, scal_flat sx rx, (in_rep sx rx rl3 sd).1, hz1, ?_, ?_, bk _ _ as2 _ _ (n1.trans n2) h2 (repX_int.mpr rfl) q2⟩
        · rw [eqS_V (sdj _ (List.getElem_mem hjl)) sx hz2 rx]
          simpa using hj1
        · intro m w hm hw
          obtain ⟨d, hd1, hd2⟩ := repL_get' rl3 hw
          have hml : m < ds.length := by omega
          rw [List.getElem?_eq_getElem hml] at hd1
          cases hd1
          rw [eqS_V (sdj _ (List.getElem_mem hml)) sx hd2 rx]
          simpa using hj2 m hm)⟩
end

/-! ### sorted, a list of pairs of whole numbers -/
def pD (p : Int × Int) : D := .tup [.int p.1, .int p.2]
def pairD : D → Option (Int × Int)
  | .tup [.int a, .int b] => some (a, b)
  | _ => none
def pairsD : List D → Option (List (Int × Int))
  | [] => some []
  | d :: ds => match pairD d, pairsD ds with
    | some p, some r => some (p :: r)
    | _, _ => none
theorem pairD_eq {d : D} {p : Int × Int} (h : pairD d = some p) : d = pD p := by
  unfold pairD at h
  split at h
  · cases h
    rfl
  · cases h
theorem pairsD_eq : ∀ {ds : List D} {ps : List (Int × Int)}, pairsD ds = some ps → ds = ps.map pD
  | [], ps, h => by
    cases h
    rfl
  | d :: ds, ps, h => by
    unfold pairsD at h
    split at h
    · rename_i p r e1 e2
      cases h
      rw [List.map_cons, pairD_eq e1, pairsD_eq e2]
    · cases h
theorem pairsD_map : ∀ ps : List (Int × Int), pairsD (ps.map pD) = some ps
  | [] => rfl
  | p :: ps => by
    rw [List.map_cons, pairsD, pairsD_map ps]
    rfl
/-- first by the first number, then by the second -/
def leP (p q : Int × Int) : Prop := p.1 < q.1 ∨ (p.1 = q.1 ∧ p.2 ≤ q.2)
instance (p q : Int × Int) : Decidable (leP p q) := by unfold leP; infer_instance
def insP (p : Int × Int) : List (Int × Int) → List (Int × Int)
  | [] => [p]
  | q :: r => if leP p q then p :: q :: r else q :: insP p r
def sortP : List (Int × Int) → List (Int × Int)
  | [] => []
  | p :: r => insP p (sortP r)
theorem insP_perm (p : Int × Int) : ∀ l, (insP p l).Perm (p :: l)
  | [] => List.Perm.refl _
  | q :: r => by
    unfold insP
    split
    · exact List.Perm.refl _
    · exact ((insP_perm p r).cons q).trans (List.Perm.swap p q r)
theorem sortP_perm : ∀ l, (sortP l).Perm l
  | [] => List.Perm.refl _
  | p :: r => (insP_perm p (sortP r)).trans ((sortP_perm r).cons p)
theorem insP_sorted (p : Int × Int) : ∀ l, l.Pairwise leP → (insP p l).Pairwise leP
  | [], _ => List.pairwise_singleton _ _
  | q :: r, h => by
    unfold insP
    rw [List.pairwise_cons] at h
    split
    · rename_i c
      rw [List.pairwise_cons]
      refine ⟨fun z hz => ?_, List.pairwise_cons.mpr h⟩
      rcases List.mem_cons.mp hz with rfl | hz
      · exact c
      · have := h.1 z hz
        unfold leP at c this ⊢
        omega
    · rename_i c
      rw [List.pairwise_cons]
      refine ⟨fun z hz => ?_, insP_sorted p r h.2⟩
      rcases List.mem_cons.mp ((insP_perm p r).mem_iff.mp hz) with rfl | hz
      · unfold leP at c ⊢
        omega
      · exact h.1 z hz
theorem sortP_sorted : ∀ l, (sortP l).Pairwise leP
  | [] => List.Pairwise.nil
  | p :: r => insP_sorted p _ (sortP_sorted r)
theorem sortP_unique {l m : List (Int × Int)} (p : l.Perm m) (h1 : l.Pairwise leP) (h2 : m.Pairwise leP) : l = m := p.eq_of_pairwise (fun a b _ _ h3 h4 => by
  unfold leP at h3 h4
  obtain ⟨a1, a2⟩ := a
  obtain ⟨b1, b2⟩ := b
  simp only at h3 h4
  have e1 : a1 = b1 := by omega
  have e2 : a2 = b2 := by omega
  rw [e1, e2]) h1 h2

def rSortP (K : PySem.W.Frag) : List V → Hp → VK → Prop := fun vs H Q => ∃ (a : Addr) (xs : List V) (ps : List (Int × Int)) (H0 : Hp), vs = [V.ref a] ∧ SqL K H a xs ∧ Ex H0 H ∧ repL K H0 (ps.map pD) xs ∧
  ∀ ys p, repL K H0 ((sortP ps).map pD) ys → H p = none → Q (.ref p) (upd H p (.lst ys))
theorem repL_mem {K : PySem.W.Frag} {H : Hp} : ∀ {ds : List D} {vs : List V} {v : V}, repL K H ds vs → v ∈ vs → ∃ d, d ∈ ds ∧ rep K H d v
  | [], vs, v, h, m => by
    rw [repL] at h
    subst h
    cases m
  | d :: ds, vs, v, h, m => by
    rw [repL] at h
    obtain ⟨w, r, rfl, h1, h2⟩ := h
    rcases List.mem_cons.mp m with rfl | m
    · exact ⟨d, List.mem_cons_self .., h1⟩
    · obtain ⟨d', e1, e2⟩ := repL_mem h2 m
      exact ⟨d', List.mem_cons_of_mem _ e1, e2⟩
section
variable {X : Cx}
theorem cr_sortP : CallR X (.builtin "sorted") (rSortP X.K) := by
  intro pins s σ H vs us Q I r h
  obtain ⟨a, xs, ps, H0, rfl, hs, e0, hr, q⟩ := h
  obtain ⟨its, rv, hl, hz⟩ := I.list hs
  obtain ⟨u, rfl, ru⟩ := vals1 r
  obtain rfl : u = Value.ref a := ru
  have tw : ∀ x p, rep X.K H0 (pD p) x → ∃ t, x = V.ref t ∧ SqT X.K H t [.int p.1, .int p.2] := fun x p hx => by
    have hx := rep_mono e0 _ _ hx
    unfold pD at hx
    rw [rep] at hx
    obtain ⟨t, ws, e1, e2, e3⟩ := hx
    rw [repL] at e3
    obtain ⟨w1, r1, rfl, f1, e3⟩ := e3
    rw [repL] at e3
    obtain ⟨w2, r2, rfl, f2, e3⟩ := e3
    rw [repL] at e3
    rw [rep] at f1 f2
    subst e3 f1 f2
    exact ⟨t, e1, e2⟩
  have un : ∀ x p p', rep X.K H0 (pD p) x → rep X.K H0 (pD p') x → p = p' := fun x p p' h1 h2 => by
    obtain ⟨t, e1, f1⟩ := tw x p h1
    obtain ⟨t', e2, f2⟩ := tw x p' h2
    rw [e1] at e2
    cases e2
    have := I.tuple_inj f1 f2
    obtain ⟨p1, p2⟩ := p
    obtain ⟨q1, q2⟩ := p'
    cases this
    rfl
  let k : V → Int × Int := fun x => if h : ∃ p, rep X.K H0 (pD p) x then h.choose else (0, 0)
  have kx : ∀ x p, rep X.K H0 (pD p) x → k x = p := fun x p h => by
    have hh : ∃ p, rep X.K H0 (pD p) x := ⟨p, h⟩
    show (if h : ∃ p, rep X.K H0 (pD p) x then h.choose else (0, 0)) = p
    rw [dif_pos hh]
    exact un x _ _ hh.choose_spec h
  have hx : ∀ x ∈ xs, ∃ p, rep X.K H0 (pD p) x := fun x m => by
    obtain ⟨d, hd, rd⟩ := repL_mem hr m
    obtain ⟨p, _, rfl⟩ := List.mem_map.mp hd
    exact ⟨p, rd⟩
  have ek : xs.map k = ps := by
    clear q hs hx
    clear rv hz hl
    revert xs
    induction ps with
    | nil =>
      intro xs hr
      rw [List.map_nil, repL] at hr
      subst hr
      rfl
    | cons p ps ih =>
      intro xs hr
      rw [List.map_cons, repL] at hr
      obtain ⟨v, t, rfl, h1, h2⟩ := hr
      rw [List.map_cons, kx v p h1, ih t h2]
  obtain ⟨e1, e2⟩ := refs_back rv fun x m => by
    obtain ⟨p, hp⟩ := hx x m
    obtain ⟨t, e, _⟩ := tw x p hp
    exact ⟨t, e⟩
  refine SrtO.sorted_pairsO (k := fun u => k (backV u)) hl.isList (by rw [← rv.length]; exact hz) (fun v hv => ?_) fun h' d out h1 h2 kp hd hn => ?_
  · obtain ⟨t, rfl⟩ := e2 v hv
    have hm : V.ref t ∈ xs := by rw [e1]; exact List.mem_map.mpr ⟨_, hv, rfl⟩
    obtain ⟨p, hp⟩ := hx _ hm
    obtain ⟨t', e, ht⟩ := tw _ p hp
    cases e
    obtain ⟨its2, r2, ⟨o, ho, hc, n, hd⟩, _⟩ := I.tuple ht
    obtain ⟨u1, u2, rfl, ri, rj⟩ := vals2 r2
    obtain ⟨t1, rfl⟩ := ri
    obtain ⟨t2, rfl⟩ := rj
    have ekp : k (backV (Value.ref t)) = p := kx _ p hp
    rw [ekp]
    exact ⟨t, o, t1, t2, n, rfl, ho, hc, hd⟩
  · have h3 : ∀ u ∈ out, ∃ a, u = Value.ref a := fun u hu => e2 u (h2.perm.mem_iff.mp hu)
    obtain ⟨n, hn⟩ := hn
    have hb : SrtO.Stb (ltP k) (out.map backV) xs := by
      rw [e1]
      exact SrtO.Stb.map (ltP_swo k) backV h2
    refine ⟨.ref d, upd H d (.lst (out.map backV)), I.laid (t' := s.toks) kp hd ⟨?_, out, n, vals_back h3, hn⟩, rfl, q _ d ?_ (I.hok.fresh hd)⟩
    · rw [hb.len]
      exact hz
    · have hsr := SrtO.srtd_map (f := backV) (lt := ltP k) h1
      have ep : (out.map backV).map k = sortP ps := by
        refine sortP_unique ?_ ?_ (sortP_sorted ps)
        · rw [← ek]
          exact (hb.perm.map k).trans (sortP_perm _).symm
        · rw [List.pairwise_map]
          refine List.Pairwise.imp (fun {x y} z => ?_) hsr
          have := SrtO.lexB_no.mp z
          unfold leP
          omega
      rw [← ep]
      have hall : ∀ y ∈ out.map backV, rep X.K H0 (pD (k y)) y := fun y hy => by
        obtain ⟨p, hp⟩ := hx y (hb.perm.mem_iff.mp hy)
        rw [kx y p hp]
        exact hp
      generalize out.map backV = ys at hall
      clear ep hsr hb
      induction ys with
      | nil => exact repL_nil
      | cons y ys ih =>
        rw [List.map_cons, List.map_cons, repL]
        exact ⟨y, ys, rfl, hall y (List.mem_cons_self ..), ih fun z hz => hall z (List.mem_cons_of_mem _ hz)⟩
def cSortP : DCl := fun ds M k => match ds with
  | [d] => (match seqD M d with
    | some xs => (match pairsD xs with
      | some ps => (match d with | .tup _ => False | _ => True) ∧ k (.lst ((sortP ps).map pD)) M
      | none => False)
    | none => False)
  | _ => False
theorem rd_sortP {K : PySem.W.Frag} : RdC K (rSortP K) cSortP := by
  intro H as M ds vs k Q hh rr q bk
  unfold cSortP at q
  split at q
  · rename_i d
    obtain ⟨v, rfl, rx⟩ := rXs1 rr
    split at q
    · rename_i xs e
      split at q
      · rename_i ps e0
        obtain ⟨q0, q⟩ := q
        rw [pairsD_eq e0] at e
        obtain ⟨p, ws, rfl, e2, e3⟩ := seq_at hh e rx
        have hq : SqL K H p ws := by
          rcases e3 with ⟨_, _, q⟩ | ⟨_, rfl, _⟩ | ⟨i, _, _, _, q⟩ | ⟨_, _, q⟩
          · exact hide_l q
          · exact q0.elim
          · exact SqL.of q
          · exact q
        refine ⟨p, ws, ps, hide as M H, rfl, hq, hide_ex, e2, fun ys l hys hl => ?_⟩
        obtain ⟨n2, h2, r2⟩ := new_lst hh hl hys
        exact bk _ _ _ _ _ n2 h2 r2 q
      · exact q.elim
    · exact q.elim
  · exact q.elim
end
section
variable {P : Program} {w : World} {K : PySem.W.Frag} {mg : Str → Option Value} {base : Heap} {x : Str} {d : DD} {fd : FuncData} {N ps : List Str} {k n : Nat} {b : DTS}
/-- a method that hands out a list of its own -/
theorem okMC {C m : Str} {dfs : List D} {ds : List Value} {dvs : List V} (F : FunDD K d fd) (hc : Cls K (He.ga K C)) (hm : Meth K (He.ga K C) m (adD K d)) (hb : Binds K fd ps ds) (hv : Vals dvs ds) (hdf : ∀ H, repL K H dfs dvs) (S : FnScope N ps d.scope) (hn : ps.length = n) (body : Bod P w K mg base N d k b) : OkM P w K mg base (k + 1) C m n dfs (dFnC n N.length b) :=
  ⟨⟨_, fd, ps, ds, dvs, hc, hm, hb, hv, hdf, fnC_ok F S hn body⟩⟩
end
end DL

/-! DLx: xs.insert(i, y); functions of built-in modules named at the top (gcd). -/
namespace DL
open PySem PySem.Spec PyProof.Rows L2 Evl
open Classical

def insD1 (M : Ms) (o v w : D) : Option Ms := match o, v with
  | .cell j, .int i => (match M[j]? with
    | some (.ml ds) => if plain w = true ∧ ds.length < big ∧ 0 ≤ i ∧ i < 2 ^ 40 then some (M.set j (.ml (ds.take i.toNat ++ [w] ++ ds.drop i.toNat))) else none
    | _ => none)
  | _, _ => none
def dInsert (da dv dw : DTE) : DTE := fun G M k kx => da G M (fun o M1 => isLC M1 o = true ∧ dv G M1 (fun v M2 => dw G M2 (fun w M3 => match insD1 M3 o v w with
  | some M' => k .non M'
  | none => False) kx) kx) kx
def fBfun (x : Str) (id : String) : Fact := fun K => decide (PySem.W.nsIn K mainGlobals x = some (some (.builtin id)))
theorem Txt.bfun {P : Program} {fs : List Fact} {fn : List DD} {K : PySem.W.Frag} {mg : Str → Option Value} (t : Txt P fs fn K mg) (i : Nat) {x : Str} {id : String} (h : fs[i]? = some (fBfun x id) := by rfl) : mg x = some (.builtin id) := by
  obtain ⟨h0, X, G⟩ := t.ns
  exact PySem.W.mg_of X G (of_decide_eq_true (t.fact i h))
def cGcd : DCl := fun ds M k => match ds with
  | [.int a, .int b] => k (.int ((Nat.gcd a.natAbs b.natAbs : Nat) : Int)) M
  | _ => False
section
variable {X : Cx} {K : PySem.W.Frag} {as as1 : AS} {M M1 : Ms} {H H1 : Hp} {G : Gm} {s : L2.St} {kx : DX} {k : DK} {Q : VK} {a b c e e2 : Expr} {da db dc : DTE}
theorem rd_gcd : RdC K rGcd cGcd := by
  intro H as M ds vs k Q hh rr q bk
  unfold cGcd at q
  split at q
  · rename_i i j
    obtain ⟨v, v', rfl, rx, rx'⟩ := rXs2 rr
    exact ⟨i, j, by rw [repX_int.mp rx, repX_int.mp rx'], bk _ H as _ M Nx.refl hh (repX_int.mpr rfl) q⟩
  · exact q.elim
theorem we_callBfun {x : Str} {p : Pos} {es : List Expr} {dt : DTA} {id : String} {r : List V → Hp → VK → Prop} {f : DCl} (hc : CallR X (.builtin id) r) (hr : RdC X.K r f) (hg : Gl X x) (hm : X.mg x = some (.builtin id)) (ha : WA X (e :: es) dt)
    (hdb : (x == ("__debug__" : Str)) = false := by decide)
    (he : starEach (e :: es) X.env = (false, eval e X.env) :: starEach es X.env := by rfl) (hpl : (backTo pos (starEach es X.env)).any (·.1) = false := by rfl) : WE X (.Call (.Name x p) (e :: es) [] pos) (dCB f dt) := ⟨fun {s H as G M k kx Q} st hd tk bk =>
  PE.sem (pe_callBfun hc hg hm pa_sem hdb he hpl) (ha.run st hd tk fun vs H' as' ds M' n hh rr q => hr hh rr q (bk.nx n))⟩
theorem we_insert {o : Expr} {dv dw : DTE} {apos cpos : Pos} (ho : WE X o da) (he : WE X e dv) (he2 : WE X e2 dw)
    (hbase : attributeBase o "insert" X.env (eval o X.env) = eval o X.env := by rfl)
    (hfew : ((backTo cpos (starEach (e :: [e2]) X.env)).all (fun x => !x.1) && (backToKw cpos (keywordEach [] X.env)).all (fun x => x.1.isSome)
      && decide ((e :: [e2]).length + ([] : List Keyword).length + (if ([] : List Keyword).isEmpty then 0 else 1) < 30)) = true := by rfl)
    (hline : (apos.endLine == cpos.line) = true := by rfl) (hs : starEach (e :: [e2]) X.env = (false, eval e X.env) :: starEach [e2] X.env := by rfl) (hs2 : starEach (e2 :: []) X.env = (false, eval e2 X.env) :: starEach [] X.env := by rfl) (hplain : (backTo cpos (starEach [e2] X.env)).any (·.1) = false := by rfl) :
    WE X (.Call (.Attribute o "insert" apos) [e, e2] [] cpos) (dInsert da dv dw) := ⟨fun {s H as G M k kx Q} stt hd tk bk =>
  PE.sem (pe_bm PySem.F.plainAttrs_list PySem.F.slot_list_insert PySem.F.type_list_insert mt_insert pe_sem (pa_cons pe_sem (pa_cons pe_sem pa_nil hs2) hs) hbase hfew hline hs hplain) (ho.run stt hd tk fun v H1 as1 o1 M1 n1 h1 r1 ⟨lc, q1⟩ => by
    obtain ⟨j, ds, ej, em⟩ := isLC_inv lc
    subst ej
    obtain ⟨p, e1, rfl⟩ := id r1
    obtain ⟨p', ho', z1, z2, xs, rfl, rl⟩ := h1.cel j _ em (fun z => nomatch z)
    rw [e1] at z1
    cases z1
    refine ⟨Or.inl ⟨rfl, xs, SqL.of z2⟩, ?_⟩
    refine he.run (stt.nx n1 h1) q1 (XW.nx n1 tk) fun v2 H2 as2 d2 M2 n2 h2 r2 q2 => ?_
    refine he2.run ((stt.nx n1 h1).nx n2 h2) q2 (XW.nx (n1.trans n2) tk) fun v3 H3 as3 d3 M3 n3 h3 r3 q3 => ?_
    have r2' := repX_nx n3 r2
    cases z : insD1 M3 (.cell j) d2 d3 with
    | none => rw [z] at q3; exact q3.elim
    | some M' =>
      rw [z] at q3
      unfold insD1 at z
      split at z
      · rename_i j' i ej
        cases ej
        split at z
        · rename_i ds2 e2
          split at z
          · rename_i pv
            cases z
            obtain ⟨pl, hl, h0, hb⟩ := pv
            obtain ⟨a, ho2, y1, y2, ys, rfl, rl2⟩ := h3.cel j _ e2 (fun z => nomatch z)
            have ea : a = p := by
              have := pre_get (n2.trans n3).pre e1
              rw [y1] at this
              cases this
              rfl
            subst ea
            obtain ⟨h4, n4⟩ := h3.write (mo' := .ml (ds2.take i.toNat ++ [d3] ++ ds2.drop i.toNat)) (ho' := .lst (ys.take i.toNat ++ [v3] ++ ys.drop i.toNat)) e2 (fun z => nomatch z) (fun z => nomatch z) y1 ⟨_, rfl, repL_append (repL_append (repL_take _ rl2) (repL_one (rep_of_plain r3 pl))) (repL_drop _ rl2)⟩
            have hz : ys.length < sizeLine := by
              rw [← repL_length rl2, sizeLine_eq]
              have e9 : ds2.length < 100000 := hl
              omega
            refine ⟨a, ys, i, v3, rfl, by rw [repX_int.mp r2'], y2, hz, h0, by omega, bk _ _ as3 _ _ (((n1.trans n2).trans n3).trans n4) h4 (repX_non.mpr rfl) q3⟩
          · cases z
        · cases z
      · cases z)⟩
end
end DL

/-! DLy: xs.pop(), xs.pop(i), xs.extend(ys). -/
namespace DL
open PySem PySem.Spec PyProof.Rows L2 Evl
open Classical

def dPop (da : DTE) : DTE := fun G M k kx => da G M (fun o M1 => match o with
  | .cell j => (match M1[j]? with
    | some (.ml ds) => (match ds.getLast? with
      | some d => k d (M1.set j (.ml ds.dropLast))
      | none => False)
    | _ => False)
  | _ => False) kx
def popD (M : Ms) (o v : D) : Option (D × Ms) := match o, v with
  | .cell j, .int i => (match M[j]? with
    | some (.ml ds) => (match ixN ds.length i with
      | some p => (match ds[p]? with
        | some d => if ds.length < big then some (d, M.set j (.ml (ds.eraseIdx p))) else none
        | none => none)
      | none => none)
    | _ => none)
  | _, _ => none
def dPopAt (da dv : DTE) : DTE := fun G M k kx => da G M (fun o M1 => isLC M1 o = true ∧ dv G M1 (fun v M2 => match popD M2 o v with
  | some (d, M') => k d M'
  | none => False) kx) kx
def extD (M : Ms) (o v : D) : Option Ms := match o with
  | .cell j => (match M[j]?, lisD M v with
    | some (.ml ds), some es => if ds.length + es.length < big then some (M.set j (.ml (ds ++ es))) else none
    | _, _ => none)
  | _ => none
def dExtend (da dv : DTE) : DTE := fun G M k kx => da G M (fun o M1 => isLC M1 o = true ∧ dv G M1 (fun v M2 => match extD M2 o v with
  | some M' => k .non M'
  | none => False) kx) kx
section
variable {X : Cx} {K : PySem.W.Frag} {as as1 : AS} {M M1 : Ms} {H H1 : Hp} {G : Gm} {s : L2.St} {kx : DX} {k : DK} {Q : VK} {a b c e : Expr} {da db dc : DTE}
theorem repL_dropLast {ds : List D} {vs : List V} (h : repL K H ds vs) : repL K H ds.dropLast vs.dropLast := by
  rw [List.dropLast_eq_take, List.dropLast_eq_take, ← repL_length h]
  exact repL_take _ h
theorem repL_erase {ds : List D} {vs : List V} (p : Nat) (h : repL K H ds vs) : repL K H (ds.eraseIdx p) (vs.eraseIdx p) := by
  rw [List.eraseIdx_eq_take_drop_succ, List.eraseIdx_eq_take_drop_succ]
  exact repL_append (repL_take _ h) (repL_drop _ h)
theorem we_pop {o : Expr} {apos cpos : Pos} (ho : WE X o da) (hbase : attributeBase o "pop" X.env (eval o X.env) = eval o X.env := by rfl) (hline : (apos.endLine == cpos.line) = true := by rfl) :
    WE X (.Call (.Attribute o "pop" apos) [] [] cpos) (dPop da) := ⟨fun {s H as G M k kx Q} stt hd tk bk =>
  PE.sem (pe_bm0 PySem.F.plainAttrs_list PySem.F.slot_list_pop PySem.F.type_list_pop mt_pop pe_sem hbase hline) (ho.run stt hd tk fun v H1 as1 o1 M1 n1 h1 r1 q1 => by
    cases o1 with
    | cell j =>
      simp only at q1
      split at q1
      · rename_i ds em
        split at q1
        · rename_i d ed
          obtain ⟨p, e1, rfl⟩ := id r1
          obtain ⟨p', ho', z1, z2, xs, rfl, rl⟩ := h1.cel j _ em (fun z => nomatch z)
          rw [e1] at z1
          cases z1
          obtain ⟨h3, n3⟩ := h1.write (mo' := .ml ds.dropLast) (ho' := .lst xs.dropLast) em (fun z => nomatch z) (fun z => nomatch z) e1 ⟨_, rfl, repL_dropLast rl⟩
          rw [List.getLast?_eq_getElem?] at ed
          obtain ⟨y, hy1, hy2⟩ := repL_get rl ed
          rw [repL_length rl] at hy1
          exact ⟨Or.inl ⟨rfl, xs, SqL.of z2⟩, p, xs, y, rfl, rfl, z2, hy1, bk _ _ as1 _ _ (n1.trans n3) h3 (repX_nx n3 (repX_of hy2)) q1⟩
        · exact q1.elim
      · exact q1.elim
    | _ => exact q1.elim)⟩
theorem we_popAt {o : Expr} {dv : DTE} {apos cpos : Pos} (ho : WE X o da) (he : WE X e dv)
    (hbase : attributeBase o "pop" X.env (eval o X.env) = eval o X.env := by rfl)
    (hfew : ((backTo cpos (starEach (e :: []) X.env)).all (fun x => !x.1) && (backToKw cpos (keywordEach [] X.env)).all (fun x => x.1.isSome)
      && decide ((e :: []).length + ([] : List Keyword).length + (if ([] : List Keyword).isEmpty then 0 else 1) < 30)) = true := by rfl)
    (hline : (apos.endLine == cpos.line) = true := by rfl) (hs : starEach (e :: []) X.env = (false, eval e X.env) :: starEach [] X.env := by rfl) (hplain : (backTo cpos (starEach [] X.env)).any (·.1) = false := by rfl) :
    WE X (.Call (.Attribute o "pop" apos) [e] [] cpos) (dPopAt da dv) := ⟨fun {s H as G M k kx Q} stt hd tk bk =>
  PE.sem (pe_bm PySem.F.plainAttrs_list PySem.F.slot_list_pop PySem.F.type_list_pop mt_popAt pe_sem (pa_cons pe_sem pa_nil hs) hbase hfew hline hs hplain) (ho.run stt hd tk fun v H1 as1 o1 M1 n1 h1 r1 ⟨lc, q1⟩ => by
    obtain ⟨j, ds, ej, em⟩ := isLC_inv lc
    subst ej
    obtain ⟨p, e1, rfl⟩ := id r1
    obtain ⟨p', ho', z1, z2, xs, rfl, rl⟩ := h1.cel j _ em (fun z => nomatch z)
    rw [e1] at z1
    cases z1
    refine ⟨Or.inl ⟨rfl, xs, SqL.of z2⟩, ?_⟩
    refine he.run (stt.nx n1 h1) q1 (XW.nx n1 tk) fun v2 H2 as2 d2 M2 n2 h2 r2 q2 => ?_
    cases z : popD M2 (.cell j) d2 with
    | none => rw [z] at q2; exact q2.elim
    | some w =>
      obtain ⟨d, M'⟩ := w
      rw [z] at q2
      unfold popD at z
      split at z
      · rename_i j' i ej
        cases ej
        split at z
        · rename_i ds2 e2
          split at z
          · rename_i q eq
            split at z
            · rename_i d' ed
              split at z
              · rename_i hl
                cases z
                obtain ⟨a, ho2, y1, y2, ys, rfl, rl2⟩ := h2.cel j _ e2 (fun z => nomatch z)
                have ea : a = p := by
                  have := pre_get n2.pre e1
                  rw [y1] at this
                  cases this
                  rfl
                subst ea
                obtain ⟨h4, n4⟩ := h2.write (mo' := .ml (ds2.eraseIdx q)) (ho' := .lst (ys.eraseIdx q)) e2 (fun z => nomatch z) (fun z => nomatch z) y1 ⟨_, rfl, repL_erase q rl2⟩
                obtain ⟨y, hy1, hy2⟩ := repL_get rl2 ed
                obtain ⟨s1, s2, s3, s4⟩ := ixN_seq eq
                rw [repL_length rl2] at s1 hl
                have e9 : ys.length < 100000 := hl
                have e8 := repL_length rl2
                exact ⟨a, ys, i, q, y, rfl, by rw [repX_int.mp r2], y2, by omega, by omega, s1, hy1, bk _ _ as2 _ _ ((n1.trans n2).trans n4) h4 (repX_nx n4 (repX_of hy2)) q2⟩
              · cases z
            · cases z
          · cases z
        · cases z
      · cases z)⟩
theorem we_extend {o : Expr} {dv : DTE} {apos cpos : Pos} (ho : WE X o da) (he : WE X e dv)
    (hbase : attributeBase o "extend" X.env (eval o X.env) = eval o X.env := by rfl)
    (hfew : ((backTo cpos (starEach (e :: []) X.env)).all (fun x => !x.1) && (backToKw cpos (keywordEach [] X.env)).all (fun x => x.1.isSome)
      && decide ((e :: []).length + ([] : List Keyword).length + (if ([] : List Keyword).isEmpty then 0 else 1) < 30)) = true := by rfl)
    (hline : (apos.endLine == cpos.line) = true := by rfl) (hs : starEach (e :: []) X.env = (false, eval e X.env) :: starEach [] X.env := by rfl) (hplain : (backTo cpos (starEach [] X.env)).any (·.1) = false := by rfl) :
    WE X (.Call (.Attribute o "extend" apos) [e] [] cpos) (dExtend da dv) := ⟨fun {s H as G M k kx Q} stt hd tk bk =>
  PE.sem (pe_bm PySem.F.plainAttrs_list PySem.F.slot_list_extend PySem.F.type_list_extend mt_extend pe_sem (pa_cons pe_sem pa_nil hs) hbase hfew hline hs hplain) (ho.run stt hd tk fun v H1 as1 o1 M1 n1 h1 r1 ⟨lc, q1⟩ => by
    obtain ⟨j, ds, ej, em⟩ := isLC_inv lc
    subst ej
    obtain ⟨p, e1, rfl⟩ := id r1
    obtain ⟨p', ho', z1, z2, xs, rfl, rl⟩ := h1.cel j _ em (fun z => nomatch z)
    rw [e1] at z1
    cases z1
    refine ⟨Or.inl ⟨rfl, xs, SqL.of z2⟩, ?_⟩
    refine he.run (stt.nx n1 h1) q1 (XW.nx n1 tk) fun v2 H2 as2 d2 M2 n2 h2 r2 q2 => ?_
    cases z : extD M2 (.cell j) d2 with
    | none => rw [z] at q2; exact q2.elim
    | some M' =>
      rw [z] at q2
      unfold extD at z
      simp only at z
      split at z
      · rename_i ds2 es e2 e3
        split at z
        · rename_i hl
          cases z
          obtain ⟨a, ho2, y1, y2, ys, rfl, rl2⟩ := h2.cel j _ e2 (fun z => nomatch z)
          have ea : a = p := by
            have := pre_get n2.pre e1
            rw [y1] at this
            cases this
            rfl
          subst ea
          obtain ⟨p2, ws, rfl, w2, w3⟩ := lis_at h2 e3 r2
          obtain ⟨h4, n4⟩ := h2.write (mo' := .ml (ds2 ++ es)) (ho' := .lst (ys ++ ws)) e2 (fun z => nomatch z) (fun z => nomatch z) y1 ⟨_, rfl, repL_append rl2 w3⟩
          have hz : ys.length + ws.length ≤ sizeLine := by
            rw [← repL_length rl2, ← repL_length w3, sizeLine_eq]
            have e9 : ds2.length + es.length < 100000 := hl
            omega
          exact ⟨a, p2, ys, ws, rfl, rfl, y2, w2, hz, bk _ _ as2 _ _ ((n1.trans n2).trans n4) h4 (repX_non.mpr rfl) q2⟩
        · cases z
      · cases z)⟩
/-! ### max, min of three whole numbers -/
def cMax3 : DCl := fun ds M k => match ds with
  | [.int a, .int b, .int c] => k (.int (max (max a b) c)) M
  | _ => False
def cMin3 : DCl := fun ds M k => match ds with
  | [.int a, .int b, .int c] => k (.int (min (min a b) c)) M
  | _ => False
theorem rXs3 {d d' d2 : D} {vs : List V} (h : repXs K as H [d, d', d2] vs) : ∃ v v' v2, vs = [v, v', v2] ∧ repX K as H d v ∧ repX K as H d' v' ∧ repX K as H d2 v2 := by
  obtain ⟨v, r, rfl, rx, h⟩ := h
  obtain ⟨v', v2, rfl, rx', rx2⟩ := rXs2 h
  exact ⟨v, v', v2, rfl, rx, rx', rx2⟩
theorem nuMax2_int {a b : Int} : nuMax2 (.int a) (.int b) = some (.int (max a b)) := by
  show some (if decide (a < b) = true then V.int b else V.int a) = _
  by_cases h : a < b
  · rw [if_pos (decide_eq_true h)]
    congr 2
    omega
  · rw [if_neg (by simpa using h)]
    congr 2
    omega
theorem nuMin2_int {a b : Int} : nuMin2 (.int a) (.int b) = some (.int (min a b)) := by
  show some (if decide (b < a) = true then V.int b else V.int a) = _
  by_cases h : b < a
  · rw [if_pos (decide_eq_true h)]
    congr 2
    omega
  · rw [if_neg (by simpa using h)]
    congr 2
    omega
theorem rd_max3 : RdC K (rNuC3 nuMax3) cMax3 := by
  intro H as M ds vs k Q hh rr q bk
  unfold cMax3 at q
  split at q
  · rename_i a b c
    obtain ⟨v, v', v2, rfl, rx, rx', rx2⟩ := rXs3 rr
    refine ⟨.int a, .int b, .int c, .int (max (max a b) c), by rw [repX_int.mp rx, repX_int.mp rx', repX_int.mp rx2], ?_, bk _ H as _ M Nx.refl hh (repX_int.mpr rfl) q⟩
    unfold nuMax3
    rw [nuMax2_int]
    exact nuMax2_int
  · exact q.elim
theorem rd_min3 : RdC K (rNuC3 nuMin3) cMin3 := by
  intro H as M ds vs k Q hh rr q bk
  unfold cMin3 at q
  split at q
  · rename_i a b c
    obtain ⟨v, v', v2, rfl, rx, rx', rx2⟩ := rXs3 rr
    refine ⟨.int a, .int b, .int c, .int (min (min a b) c), by rw [repX_int.mp rx, repX_int.mp rx', repX_int.mp rx2], ?_, bk _ H as _ M Nx.refl hh (repX_int.mpr rfl) q⟩
    unfold nuMin3
    rw [nuMin2_int]
    exact nuMin2_int
  · exact q.elim
end
end DL

/-! DLz: tuples that hold cells, defs that keep their cells, defaults left out, sorted(set(..)), xs[i] += e. -/
namespace DL
open PySem PySem.Spec PyProof.Rows L2 Evl
open Classical

section
variable {K : PySem.W.Frag} {H : Hp}
theorem rep_non' : rep K H .non .non := by rw [rep]
theorem rep_str' {x : Str} : rep K H (.str x) (.str x) := by rw [rep]
/-- a def with defaults, some of which are filled up -/
theorem bindsD {x : Str} {qual : Str} {params : Arguments} {body : List Stmt} {scope : Scope} {dvs : List V} {kws : List (Str × V)} {f : Addr} {fd : FuncData} {ps : List Str} (F : FunD K x qual params body scope dvs kws f fd) (n m j : Nat) (hd : dvs ≠ []) (hm : dvs.length = m) (hn : n + (m - j) = ps.length)
    (h : ∀ (T : Addr) (kV doc pm : Value) (an : Option Addr) (cdv ct : Value) (us its : List Value), us.length = n → its.length = m →
      ∃ k, bindArgs (PySem.W.fnOf x qual params body scope (.ref T) kV doc pm an cdv ct) ⟨us, []⟩ = seqItems? (.ref T) >>= k ∧ k (some its.toArray) = pure (ps.zip (us ++ its.drop j))) : ∃ ds, Vals (dvs.drop j) ds ∧ Binds K fd ps ds := by
  subst hm
  exact F.binds1 n j hd hn h
end

section
variable {X : Cx} {K : PySem.W.Frag} {as as1 : AS} {M M1 : Ms} {H H1 : Hp} {G : Gm} {s : L2.St} {kx : DX} {k : DK} {Q : VK} {a b c e : Expr} {da db dc : DTE} {ta tb tc : DTT} {pos : Pos}
/-! ### tuples and lists that hold cells -/
theorem repXs_refs (hh : Hold K as M H) {H2 : Hp} : ∀ {ds : List D} {vs : List V}, repXs K as H2 ds vs → refsLt M.length ds
  | [], _, _ => fun j hj => nomatch hj
  | d :: ds, _, ⟨v, r, e1, h1, h2⟩ => fun j hj => by
    rcases List.mem_cons.mp hj with e | hj
    · subst e
      obtain ⟨p, q, _⟩ := h1
      rw [← hh.len]
      exact (List.getElem?_eq_some_iff.mp q).1
    · exact repXs_refs hh h2 j hj
theorem new_mx {p : Addr} {ds : List D} {vs : List V} (tp : Bool) (h : Hold K as M H) (hp : H p = none) (r : repXs K as (hide as M H) ds vs) :
    Nx as M H (as.snoc p) (M ++ [.mx tp ds]) (upd H p (if tp = true then .tup vs else .lst vs)) ∧ Hold K (as.snoc p) (M ++ [.mx tp ds]) (upd H p (if tp = true then .tup vs else .lst vs)) ∧
    repX K (as.snoc p) (hide (as.snoc p) (M ++ [.mx tp ds]) (upd H p (if tp = true then .tup vs else .lst vs))) (.cell M.length) (.ref p) := by
  obtain ⟨h1, n1⟩ := h.mut (mo := .mx tp ds) (ho := if tp = true then .tup vs else .lst vs) hp (fun z => nomatch z) ⟨vs, rfl, r, repXs_refs h r⟩
  exact ⟨n1, h1, p, by show (as.l ++ [p])[M.length]? = _; rw [← h.len]; simp, rfl⟩
/-- a tuple, some of whose items are cells -/
def dTupX (dt : DTA) : DTE := fun G M k kx => dt G M (fun ds M1 => ds.length ≤ big ∧ k (.cell M1.length) (M1 ++ [.mx true ds])) kx
theorem we_tupX {es : List Expr} {dt : DTA} {x1} (h : WA X es dt) : WE X (.Tuple es x1 pos) (dTupX dt) := ⟨fun {s H as G M k kx Q} st hd tk bk =>
  PE.sem (pe_tup pa_sem) (h.run (Q := fun xs H1 => xs.length ≤ sizeLine ∧ ∀ p, H1 p = none → Q (.ref p) (upd H1 p (.tup xs))) st hd tk fun vs H' as' ds M' n hh r ⟨p2, q⟩ =>
    ⟨by rw [← repXs_length r]; exact big_line p2, fun p hp => by
      obtain ⟨n2, h2, r2⟩ := new_mx true hh hp r
      exact bk _ _ _ _ _ (n.trans n2) h2 r2 q⟩)⟩
/-- a list, some of whose items are cells -/
def dLstX (dt : DTA) : DTE := fun G M k kx => dt G M (fun ds M1 => ds.length ≤ big ∧ k (.cell M1.length) (M1 ++ [.mx false ds])) kx
theorem we_lstX {es : List Expr} {dt : DTA} (h : WA X es dt) : WE X (.List es pos) (dLstX dt) := ⟨fun {s H as G M k kx Q} st hd tk bk =>
  PE.sem (pe_lst pa_sem) (h.run (Q := fun xs H1 => xs.length ≤ sizeLine ∧ ∀ p, H1 p = none → Q (.ref p) (upd H1 p (.lst xs))) st hd tk fun vs H' as' ds M' n hh r ⟨p2, q⟩ =>
    ⟨by rw [← repXs_length r]; exact big_line p2, fun p hp => by
      obtain ⟨n2, h2, r2⟩ := new_mx false hh hp r
      exact bk _ _ _ _ _ (n.trans n2) h2 r2 q⟩)⟩
/-- a def all of whose cells stay -/
def dFnX (n slots : Nat) (body : DTS) : DSp := fun ds M k kx => ds.length = n ∧
  body ⟨fun _ M' => k .non M', k, fun _ _ => False, fun _ _ => False, fun x _ M' => kx x (M'.take M.length)⟩ (ds.map some ++ List.replicate (slots - n) none) M
theorem fnX_ok {P : Program} {w : World} {K : PySem.W.Frag} {mg : Str → Option Value} {base : Heap} {x qual : Str} {params : Arguments} {body : List Stmt} {scope : Scope} {dvs : List V} {kws : List (Str × V)} {f : Addr} {fd : FuncData} {N ps : List Str} {k n : Nat} {d : DTS}
    (F : FunD K x qual params body scope dvs kws f fd) (S : FnScope N ps scope) (hn : ps.length = n)
    (hb : ∀ (cdv : Value) (A : Around) (outer : List Env) (s : Shared) (H : Hp) (E : XK), Room k (A.deeper (envOfC qual scope s.heap.objs.size f cdv)) → WS (cxOf (L2.CX P w) P w K mg base N qual scope f cdv A outer s H E) body d) :
    FnOk P w K mg base (L2.CX P w) (k + 1) f fd ps (lift K n (dFnX n N.length d)) := by
  refine F.ok S (fun vs H Q E h => h.1.trans hn.symm) (fun cdv A outer s H vs Q E hr h => ⟨semB _ body, pss_sem, ?_⟩)
  obtain ⟨hl, as, M, ds, kk, kx, hh, rx, ⟨hdl, q⟩, bk, bx⟩ := h
  have tk : Takes (cxOf (L2.CX P w) P w K mg base N qual scope f cdv A outer s H E) (fun cls d _ H => E cls d H) := takes_of rfl rfl rfl rfl
  refine (hb cdv A outer s H E hr).run (G := ds.map some ++ List.replicate (N.length - n) none) ⟨hh, slots_start rx hdl⟩ q ?_ ?_
  · refine tk.imp ?_
    rintro cls dd s' H' ⟨x, G', as', M', nx, st', xc, q'⟩
    obtain ⟨h2, n2, ex⟩ := drop_nx nx hh st'.hold
    exact bx x cls dd H' as _ n2 h2 (xcIs_mono ex xc) q'
  · exact ⟨fun s' H' as' G' M' nx st' q' => bk .non H' as' .non _ nx st'.hold (repX_non.mpr rfl) q', fun _ _ _ _ _ _ _ z => z.elim, fun _ _ _ _ _ _ _ z => z.elim, bk⟩
end
section
variable {P : Program} {w : World} {K : PySem.W.Frag} {mg : Str → Option Value} {base : Heap} {x : Str} {d : DD} {fd : FuncData} {N ps : List Str} {k n : Nat} {b : DTS}
theorem okFX {dfs : List D} {ds : List Value} {dvs : List V} (F : FunDD K d fd) (hm : mg x = some (.ref (adD K d))) (hb : Binds K fd ps ds) (hv : Vals dvs ds) (hdf : ∀ H, repL K H dfs dvs) (S : FnScope N ps d.scope) (hn : ps.length = n) (body : Bod P w K mg base N d k b) : OkF P w K mg base (k + 1) x n dfs (dFnX n N.length b) :=
  ⟨⟨_, fd, ps, ds, dvs, hm, F.kp, hb, hv, hdf, fnX_ok F S hn body⟩⟩
end

/-! ### xs[i] += e -/
section
variable {X : Cx} {K : PySem.W.Frag} {as as1 : AS} {M M1 : Ms} {H H1 : Hp} {G : Gm} {s : L2.St} {kx : DX} {k : DK} {Q : VK} {a b c e : Expr} {da db dv : DTE} {pos : Pos}
/-- what lies at a place of a cell: an int -/
def cellI (M : Ms) (o i : D) : Option Int := match o, i with
  | .cell j, .int z => (match M[j]? with
    | some (.ml ds) => (match atI ds z with
      | some (.int x) => some x
      | _ => none)
    | _ => none)
  | _, _ => none
def rGetL (K : PySem.W.Frag) : V → V → Hp → VK → Prop := fun x y H Q => ∃ p xs i v, x = .ref p ∧ y = .int i ∧ SqL K H p xs ∧ atI xs i = some v ∧ Q v H
theorem get_listI : PGet X (rGetL X.K) := by
  intro pins s σ H o i ov iv Q I ro ri h
  obtain ⟨p, xs, z, v, rfl, rfl, hq, he, q⟩ := h
  cases ro
  obtain ⟨t, rfl⟩ := ri
  obtain ⟨its, r, pl, hz⟩ := I.list hq
  obtain ⟨j, h1, h2, h3, h4, h5⟩ := atI_get he
  obtain ⟨w, ew, rw'⟩ := r.get h2
  have hl := r.length
  have hn := line63
  by_cases h0 : 0 ≤ z
  · have hj : z.toNat = j := by
      rw [seqIndex_of h0 h5] at h1
      exact Option.some.inj h1
    exact wpAny_getItem_list pl.isList h0 (by omega) (by rw [hj]; simpa using ew) ⟨v, H, I, rw', q⟩
  · have hj : (z + (its.toArray.size : Int)).toNat = j := by
      rw [seqIndex_neg (by omega) h4] at h1
      rw [List.size_toArray, ← hl]
      exact Option.some.inj h1
    exact wpAny_getItem_list_neg pl.isList (by omega) (by rw [List.size_toArray] <;> omega) (by omega) (by rw [hj]; simpa using ew) ⟨v, H, I, rw', q⟩
def dAugSub (f : Int → Int → Int) (da db dv : DTE) : DTS := fun D G M => da G M (fun o M1 => db G M1 (fun i M2 => match cellI M2 o i with
  | some x => dv G M2 (fun v M3 => match v with
    | .int y => (match stoD M3 o i (.int (f x y)) with
      | some M' => D.nx G M'
      | none => False)
    | _ => False) (fun x M' => D.ex x G M')
  | none => False) (fun x M' => D.ex x G M')) (fun x M' => D.ex x G M')
theorem w1_augSub {o i : Expr} {op : Operator} {f : Int → Int → Int} {tpos : Pos} (ho : WE X o da) (hi : WE X i db) (he : WE X e dv) (hp : PIp X op (ipI f))
    (ha : ∀ ov iv new, augStore i ov iv new = (do holding [new, ov, iv] (setItem ov iv new); release [new, ov, iv] []; pure .next) := by intros; rfl) : W1 X (.AugAssign (.Subscript o i tpos) op e pos) (dAugSub f da db dv) := ⟨fun {s H as G M D DE} stt hd tk rd =>
  PS.sem (ps_augS pe_sem pe_sem get_listI pe_sem hp set_list ha) (ho.run stt hd (takes_e tk) fun o' H1 as1 o1 M1 n1 h1 r1 q1 =>
    hi.run (stt.nx n1 h1) q1 (takes_e (XW.nx n1 tk)) fun i' H2 as2 i2 M2 n2 h2 r2 q2 => by
      cases z : cellI M2 o1 i2 with
      | none => rw [z] at q2; exact q2.elim
      | some x =>
        rw [z] at q2
        unfold cellI at z
        split at z
        · rename_i j zi
          split at z
          · rename_i ds em
            split at z
            · rename_i x' ea
              cases z
              have r1' := repX_nx n2 r1
              obtain ⟨p, e1, rfl⟩ := r1'
              obtain ⟨p', ho', z1, z2, xs, rfl, rl⟩ := h2.cel j _ em (fun z => nomatch z)
              rw [e1] at z1
              cases z1
              have ei := repX_int.mp r2
              subst ei
              obtain ⟨v, e3, e4⟩ := atI_rep rl ea
              rw [rep] at e4
              subst e4
              refine ⟨p, xs, zi, .int x, rfl, rfl, SqL.of z2, e3, ?_⟩
              have n12 := n1.trans n2
              refine he.run (stt.nx n12 h2) q2 (takes_e (XW.nx n12 tk)) fun v3 H3 as3 d3 M3 n3 h3 r3 q3 => ?_
              have n13 := n12.trans n3
              cases d3 with
              | int y =>
                refine ⟨x, y, rfl, repX_int.mp r3, ?_⟩
                have q3 : (match stoD M3 (.cell j) (.int zi) (.int (f x y)) with
                  | some M' => D.nx G M'
                  | none => False) := q3
                cases w : stoD M3 (.cell j) (.int zi) (.int (f x y)) with
                | none => rw [w] at q3; exact q3.elim
                | some M' =>
                  rw [w] at q3
                  obtain ⟨p2, xs2, kk, j2, w1, w2, w3, w4, h4, n4⟩ := sto_ok (vv := .int (f x y)) h3 w (repX_nx n3 ⟨p, e1, rfl⟩) (repX_int.mpr rfl) (repX_int.mpr rfl)
                  exact ⟨p2, xs2, kk, j2, w1, w2, w3, w4, rd.nx s _ as3 G M' (n13.trans n4) (stt.nx (n13.trans n4) h4) q3⟩
              | _ => exact q3.elim
            · cases z
          · cases z
        · cases z)⟩
end
end DL

/-! DLS: sorted(set(xs)), len(set(xs)). -/
namespace DL
open PySem PySem.Spec PyProof.Rows L2 Evl
open Classical

/-! ### sorted(set(xs)), xs a list of ints -/
section
variable {P : Program} {w : World} {A : Around} {E : Value → Shared → Prop} {s : Shared}
abbrev newSet (w : World) : Obj := { cls := .type "set", dict := none, data := .set #[] 0 (.fresh 0 0 (!w.params.followText "set-order")) }
set_option maxHeartbeats 3200000 in
theorem setOfInts {l : Addr} {items : Array Value} (ns : List Int) {Q : Value → Shared → Prop} (hh : A.handled = none) (hl : s.heap.IsList l items) (hit : IntsAre items.toList ns) (hb : ns.length + 1 < scanBound)
    (h : ∀ (h' : Heap) (tk c : Nat), SetR w h' s.heap.objs.size (fun j => decide (j ∈ ns)) c → c ≤ ns.length → (∀ b o, s.heap.get? b = some o → h'.get? b = some o) → Q (.ref s.heap.objs.size) { s with heap := h', toks := tk }) :
    wpAny (model P w) A (call (.type "set") [.ref l]) Q E s := by
  have hn : items.size = ns.length := by
    rw [← Array.length_toList]
    exact IntsAre.length hit
  obtain ⟨c0, tl, hmro⟩ := F.called_set.mro
  have q1 := F.called_set.made
  have q2 := sub_set_self
  refine wpAny_call (codeAny_of_tree ?_)
  show wpAny _ _ (callAny (.type "set") _) _ _ _
  refine wpAny_pure ⟨Code.quiet_builtin _ (by decide +kernel), codeAny_builtin F.entry_type_call ?_⟩
  rw [Around.under_plain (weight_type_call_type "set" [.ref l] []) rfl]
  have q3 := F.called_set.notType
  have q4 := F.called_set.canCreate
  have q5 := F.typeCall_set_1 (.ref l)
  have q6 := F.called_set.sub
  repeat (any_goals (first | assumption | wp_step))
  refine codeAny_mono (code_set_led1 (.ref l) (E := E) (Q₁ := fun ob s1 => ob = .ref s.heap.objs.size ∧ s1 = { s with heap := s.heap.push (newSet w) }) ⟨rfl, rfl⟩) fun r s1 hr => ?_
  cases r with
  | error e => exact hr
  | ok fl =>
    cases fl with
    | ret ob =>
      obtain ⟨rfl, rfl⟩ := hr
      have g0 : (s.heap.push (newSet w)).get? s.heap.objs.size = some (newSet w) := Heap.get?_push_size _ rfl
      have hT : Shared.TypeIs { s with heap := s.heap.push (newSet w) } (.ref s.heap.objs.size) "set" := ⟨_, g0, rfl⟩
      have q7 := F.called_set.init.lookup
      have q8 := F.called_set.init.bind (.ref s.heap.objs.size)
      repeat (any_goals (first | assumption | wp_step))
      refine codeAny_mono (codeAny_call_builtin (R := wants (fun r s2 => r = .none ∧ ∃ h' tk c, s2 = { s with heap := h', toks := tk } ∧ SetR w h' s.heap.objs.size (fun j => decide (j ∈ ns)) c ∧ c ≤ ns.length ∧
          (∀ b o, s.heap.get? b = some o → h'.get? b = some o)) E) F.called_set.init.plain F.entry_set_init (check_set_init_1 hT ?_)) fun r2 s2 hr2 => ?_
      · obtain ⟨⟨oc, od, oda, osl⟩, hol, hcl, nl, hdl⟩ := hl
        simp only at hcl hdl
        subst hcl
        subst hdl
        have g1 : (s.heap.push (newSet w)).get? l = some { cls := .type "list", dict := od, data := .seq items nl, slots := osl } := Heap.get?_push_of_some _ hol
        have q9 := F.sub_list_set
        have q10 := F.sub_list_frozenset
        have q11 : (Value.type "list" == Value.type "dict") = false := by decide
        have hl1 : (s.heap.push (newSet w)).IsList l items := ⟨_, g1, rfl, nl, rfl⟩
        have hlS : l < s.heap.objs.size := Heap.lt_size hol
        unfold Builtin.«set.__init__» noKeywords Builtin.Frozenset.updateFrom
        generalize hPI : pyIter = PI
        wp_walk
        subst hPI
        refine wpAny_pyIter_list hl1 (wpAny_bind (wpAny_runValue ?_))
        have sz : (s.heap.push (newSet w)).objs.size = s.heap.objs.size + 1 := Heap.size_push ..
        have ne1 : l ≠ (s.heap.push (newSet w)).objs.size := by
          rw [sz]
          exact Nat.ne_of_lt (Nat.lt_succ_of_lt hlS)
        have ne2 : s.heap.objs.size ∉ [(s.heap.push (newSet w)).objs.size, l] := by
          rw [sz]
          intro z
          rcases List.mem_cons.mp z with z | z
          · exact Nat.ne_of_lt (Nat.lt_succ_self _) z
          · exact Nat.ne_of_gt hlS (List.mem_singleton.mp z)
        have val : ∀ (i : Nat) (v : Value), items[i]? = some v → ∃ k t, ns[i]? = some k ∧ v = .int k t := fun i v hv => by
          have hi : i < ns.length := by
            rw [← hn]
            exact (Array.getElem?_eq_some_iff.mp hv).1
          obtain ⟨t, e⟩ := PyProof.Rows.IntsAre.int_at hit i v (by rw [Array.getElem?_toList]; exact hv)
          refine ⟨ns[i], t, List.getElem?_eq_getElem hi, e.trans ?_⟩
          rw [List.getD_eq_getElem?_getD, List.getElem?_eq_getElem hi]
          rfl
        have hd3 : A.in1.in1.in1.handled = none := by simp [hh]
        refine set_update_ints ((Walks.list hd3 _ l ne1 items).toS) s.heap.objs.size ne2 ns hn hb val (items.size - 0) 0 _ (by omega) (Nat.zero_le _) ⟨⟨_, Heap.get?_push_size _ rfl, rfl, rfl⟩, (hl1.push _)⟩ ⟨0, Nat.le_refl 0, setR_new_at (Heap.get?_push_of_some _ g0)⟩ ?_
        intro s' c' hm hc' hS'
        obtain ⟨h', g2, d', tk', os'⟩ := s'
        have z1 : g2 = s.gens := hm.gens
        have z2 : d' = s.drawn := hm.drawn
        have z3 : os' = s.os := hm.os
        subst z1 z2 z3
        show wpAny _ _ _ _ _ _
        refine wpAny_pure ?_
        show wpAny _ _ (ret Value.none) _ _ _
        rw [hn] at hc'
        refine wpAny_pure ⟨rfl, h', tk', c', rfl, hS', hc', fun b o z => ?_⟩
        have hb0 : b < s.heap.objs.size := Heap.lt_size z
        refine hm.heap b o (fun y => ?_) (Heap.get?_push_of_some _ (Heap.get?_push_of_some _ z))
        rcases List.mem_cons.mp y with y | y
        · exact Nat.ne_of_lt hb0 y
        · exact Nat.ne_of_lt (Nat.lt_succ_of_lt hb0) ((List.mem_singleton.mp y).trans sz)
      · cases r2 with
        | error e => exact hr2
        | ok fl2 =>
          cases fl2 with
          | ret r =>
            obtain ⟨rfl, h', tk, c', rfl, hS', hc', hk'⟩ := hr2
            repeat (any_goals (first | assumption | wp_step))
            exact h _ _ _ hS' hc' hk'
          | _ => exact hr2.elim
    | _ => exact hr.elim
end

section
variable {X : Cx} {K : PySem.W.Frag} {as as1 : AS} {M M1 : Ms} {H H1 : Hp} {G : Gm} {s : L2.St} {kx : DX} {k : DK} {Q : VK} {a b c e : Expr} {da db dv : DTE} {pos : Pos}
/-- sorted(set(xs)): the one ascending list of what is in xs -/
def dSortSet (da : DTE) : DTE := fun G M k kx => da G M (fun d M1 => match lisD M1 d with
  | some ds => (match intsD ds with
    | some ns => ns.length < 64 ∧ ∀ ms : List Int, ms.Pairwise (· < ·) → (∀ j, j ∈ ms ↔ j ∈ ns) → k (.lst (ms.map D.int)) M1
    | none => False)
  | none => False) kx
theorem we_sortSet {p p2 q : Pos} (hc : X.calm = true) (hg : Gl X "sorted") (hm : X.mg "sorted" = none) (hg2 : Gl X "set") (hm2 : X.mg "set" = none) (ha : WE X a da)
    (na : starEach [a] X.env = (false, eval a X.env) :: starEach [] X.env := by rfl) (nb : starEach [Expr.Call (.Name "set" p2) [a] [] q] X.env = (false, eval (Expr.Call (.Name "set" p2) [a] [] q) X.env) :: starEach [] X.env := by rfl) :
    WE X (.Call (.Name "sorted" p) [.Call (.Name "set" p2) [a] [] q] [] pos) (dSortSet da) := ⟨fun {s H as G M k kx Q} stt hd tk bk pins sh I => by
  refine Call_ (ld_blt I hg hm (show bootBuiltins "sorted" = some (.builtin "sorted") by first | rfl | decide +kernel) ?_)
  refine PyProof.Rows.callWith_builtin1 (PyProof.Rows.args_cons ?_ nb) nb rfl
  refine Call_ (ld_blt I hg2 hm2 PyProof.Rows.boot_set ?_)
  refine PyProof.Rows.callWith_type1 (PyProof.Rows.args_cons (thn (ha.run (Q := fun x H1 => ∃ as1 d1 M1, Nx as M H as1 M1 H1 ∧ Hold X.K as1 M1 H1 ∧ repX X.K as1 (hide as1 M1 H1) d1 x ∧ (match lisD M1 d1 with
    | some ds => (match intsD ds with
      | some ns => ns.length < 64 ∧ ∀ ms : List Int, ms.Pairwise (· < ·) → (∀ j, j ∈ ms ↔ j ∈ ns) → k (.lst (ms.map D.int)) M1
      | none => False)
    | none => False)) stt hd tk (fun v H' as' d' M' n h r q => ⟨as', d', M', n, h, r, q⟩) pins sh I) fun v s1 ⟨x, H1, I1, r1, as1, d1, M1, n1, h1, rx, q1⟩ => PyProof.Rows.args_nil ?_) na) na rfl
  split at q1
  · rename_i ds e1
    split at q1
    · rename_i ns e2
      obtain ⟨q0, q1⟩ := q1
      rw [intsD_eq e2] at e1
      obtain ⟨l, vs, rfl, hl, rl⟩ := lis_at h1 e1 rx
      have ev := repL_ints_inv rl
      subst ev
      obtain rfl : v = Value.ref l := r1
      obtain ⟨its, rv, pl, hz⟩ := I1.list (SqL.of hl)
      have hi : IntsAre its.toArray.toList ns := ints_of_vals rv
      refine setOfInts ns (I1.ok.hd hc) pl.isList hi (by unfold scanBound; omega) fun h' tk2 c R hcn kp => ?_
      refine PyProof.Rows.args_nil ?_
      have I2 : Inv X pins s H1 { s1 with heap := h', toks := tk2 } := I1.kept fun b o e => kp b o e
      refine sorted_set (s := { s1 with heap := h', toks := tk2 }) R (I1.ok.hd hc) (by omega) fun s' p out c2 ms kk g o hp hgp his hs hmm hll => ?_
      have hlen : (ms.map V.int).length ≤ sizeLine := by rw [List.length_map, hll, sizeLine_eq]; omega
      have hsz : s1.heap.objs.size ≤ p := Nat.le_trans (Nat.le_of_lt R.lt) hp
      have hn : H1 p = none := I1.hok.fresh hsz
      have J : Inv X pins s (upd H1 p (.lst (ms.map V.int))) { s1 with heap := s'.heap, gens := s'.gens, drawn := s'.drawn, toks := s'.toks } :=
        I1.call (ch := []) (Un.laid (fun b u e => kk b u (kp b u e)) hsz hn) (I1.hok.laid (fun b u e => kk b u (kp b u e)) hsz ⟨hlen, out.toList, c2, vals_of_ints his, hgp⟩) (by rw [g]; exact I1.bare) (fun _ z => nomatch z)
      have es : s' = { s1 with heap := s'.heap, gens := s'.gens, drawn := s'.drawn, toks := s'.toks } := by
        cases s'
        cases s1
        cases o
        rfl
      rw [es]
      obtain ⟨n2, h2, r2⟩ := new_lst h1 hn (repL_ints ms)
      exact ⟨.ref p, _, J, rfl, bk _ _ _ _ _ (n1.trans n2) h2 r2 (q1 ms hs fun j => (hmm j).trans (by rw [decide_eq_true_eq]))⟩
    · exact q1.elim
  · exact q1.elim⟩
end
end DL

/-! DL1: sorted of tuples of ints, xs[i] = e where e is a cell, C(e, k = v) with keyword-only parameters. -/
namespace DL
open PySem PySem.Spec PyProof.Rows L2 Evl
open Classical

/-! ### sorted(xs), xs a tuple or a list of ints of any length -/
section
variable {prog : Program} {w : World} {A : Around} {E : Value → Shared → Prop} {s : Shared}
theorem collectTup {l : Addr} {vs : List Value} {Q : List Value → Shared → Prop} (hl : IsTup s.heap l vs.toArray)
    (h : Q vs { s with heap := (s.heap.push (seqObj "list" #[] 0)).update s.heap.objs.size (Obj.mapSeq (· ++ vs.toArray)) }) (hsz : vs.length ≤ sizeLine) :
    wpAny (model prog w) A (collect (.ref l)) Q E s := by
  obtain ⟨o, ho, hc, n, hd⟩ := id hl
  unfold collect
  refine wpAny_bind (wpAny_runValue (codeAny_builtin entry_proto_collect' ?_))
  show wpAny _ _ (do again (.builtin "list.__iadd__" ⟨[← newList [], .ref l], []⟩)) _ _ s
  refine wpAny_bind (wpAny_newList (wpAny_pure ⟨Code.quiet_builtin _ (by decide +kernel), codeAny_builtin entry_list_iadd' ?_⟩))
  show wpAny _ _ (Builtin.List.listExtendWith (.ref s.heap.objs.size) (.ref l) (.ref s.heap.objs.size)) _ _ { s with heap := s.heap.push (seqObj "list" #[] 0) }
  unfold Builtin.List.listExtendWith
  have ho' : (s.heap.push (seqObj "list" #[] 0)).get? l = some o := Heap.get?_push_of_some _ ho
  refine wpAny_bind (wpAny_typeOf (T := "tuple") ⟨o, ho', hc⟩ ?_)
  have ht : (Value.type "tuple" == Value.type "tuple") = true := by rfl
  rw [if_pos (by rw [ht]; simp)]
  refine wpAny_bind (listItems_at ho' hd ?_)
  refine wpAny_bind (listItems_at (xs := #[]) (n := 0) (Heap.get?_push_size _ rfl) rfl ?_)
  rw [if_neg (by simp)]
  refine wpAny_bind (listUpdate_at (xs := #[]) (n := 0) (Heap.get?_push_size _ rfl) rfl ?_ (Nat.zero_le _) (by show (#[] ++ vs.toArray).size ≤ sizeLine + 1; simp only [Array.size_append, List.size_toArray, List.length_nil]; omega))
  refine wpAny_pure ?_
  show wpAny (model prog w) A (do
      let o ← load s.heap.objs.size
      match o.data with
      | .seq xs _ => pure xs.toList
      | _ => unsupported "internal:collect") Q E { s with heap := (s.heap.push (seqObj "list" #[] 0)).update s.heap.objs.size (Obj.mapSeq (· ++ vs.toArray)) }
  refine wpAny_bind (wpAny_load (get?_update_seq (Heap.get?_push_size _ rfl) _) ?_)
  show wpAny _ _ (pure ((#[] : Array Value) ++ vs.toArray).toList) Q E _
  rw [show ((#[] : Array Value) ++ vs.toArray).toList = vs by simp]
  exact wpAny_pure h
open SrtO in
theorem sortedTup {l : Addr} {vs : List Value} {ltv : Value → Value → Bool} {Q : Value → Shared → Prop} (O : Swo ltv) (hl : IsTup s.heap l vs.toArray) (hz : vs.length ≤ sizeLine)
    (hS : 2 ≤ vs.length → ∀ (h₁ : Heap) (a : Addr), h₁.get? a = some (seqObj "list" vs.toArray 0) → (∀ b o, s.heap.get? b = some o → b ≠ a ∧ h₁.get? b = some o) → SortableO prog w A.in1.in1 { s with heap := h₁ } a vs ltv)
    (h : ∀ out : List Value, Srtd ltv out → Stb ltv out vs → Q (.ref (s.heap.objs.size + 1)) { s with heap := sortedAll s.heap vs out.toArray }) :
    wpAny (model prog w) A (call (.builtin "sorted") [.ref l]) Q E s := by
  refine Calls.call_function_entry kind_sorted plain_sorted entry_sorted (args_sorted1 _) ?_
  unfold Builtin.«sorted»
  refine wpAny_bind (m := checkCount "sorted" 1 1 _) (wpAny_pure ?_)
  refine wpAny_bind (collectTup hl ?_ hz)
  refine wpAny_bind (wpAny_newList ?_ hz)
  have hsz : ((s.heap.push (seqObj "list" #[] 0)).update s.heap.objs.size (Obj.mapSeq (· ++ vs.toArray))).objs.size = s.heap.objs.size + 1 := by
    rw [Heap.size_update, size_push']
  have hoL : (((s.heap.push (seqObj "list" #[] 0)).update s.heap.objs.size (Obj.mapSeq (· ++ vs.toArray))).push (seqObj "list" vs.toArray 0)).get? (s.heap.objs.size + 1) = some (seqObj "list" vs.toArray 0) := by
    rw [← hsz]; exact Heap.get?_push_size _ rfl
  have keep : ∀ b o, s.heap.get? b = some o → b ≠ s.heap.objs.size + 1 ∧ (((s.heap.push (seqObj "list" #[] 0)).update s.heap.objs.size (Obj.mapSeq (· ++ vs.toArray))).push (seqObj "list" vs.toArray 0)).get? b = some o := fun b o q => by
    have hlt : b < s.heap.objs.size := Heap.lt_size q
    refine ⟨Nat.ne_of_lt (Nat.lt_succ_of_lt hlt), Heap.get?_push_of_some _ ?_⟩
    rw [Heap.get?_update_ne _ _ _ _ (Nat.ne_of_lt hlt)]
    exact Heap.get?_push_of_some _ q
  show wpAny _ _ _ _ _ { s with heap := ((s.heap.push (seqObj "list" #[] 0)).update s.heap.objs.size (Obj.mapSeq (· ++ vs.toArray))).push (seqObj "list" vs.toArray 0) }
  rw [hsz]
  refine wpAny_bind (wpAny_holding (wpAny_call_entry slot_list_sort ⟨_, hoL, rfl⟩ entry_list_sort (list_sort_ord O hoL hz (fun h2 => hS h2 _ _ hoL keep) fun out hs hb => ⟨_, rfl, ?_⟩) (args_list_sort _)))
  exact wpAny_pure ⟨_, rfl, h out hs hb⟩
end
def rSortA (K : PySem.W.Frag) : List V → Hp → VK → Prop := fun vs H Q => ∃ (a : Addr) (ns : List Int), vs = [V.ref a] ∧ (SqL K H a (ns.map V.int) ∨ SqT K H a (ns.map V.int)) ∧
  ∀ (ns' : List Int) (p : Addr), ns'.Perm ns → ns'.Pairwise (· ≤ ·) → H p = none → Q (.ref p) (upd H p (.lst (ns'.map V.int)))
theorem cr_sortA {X : Cx} : CallR X (.builtin "sorted") (rSortA X.K) := by
  intro pins s σ H vs us Q I r h
  obtain ⟨a, ns, rfl, hs, q⟩ := h
  rcases hs with hs | hs
  · exact cr_sortedI pins s σ H _ us Q I r ⟨a, ns, rfl, hs, q⟩
  · obtain ⟨its, rv, hl, hz⟩ := I.tuple hs
    rw [Vals.ref1 r]
    have hi := rv.ints
    refine sortedTup SrtO.swo_int hl (by rw [← rv.length]; exact hz) (fun h2 h₁ a' _ _ => SrtO.ints_sortable hi h2) fun out h1 h2 => ?_
    obtain ⟨k1, k2, k3⟩ := SrtO.ints_out hi h1 h2
    obtain ⟨ep, he'⟩ := PyProof.Rows.sortedAll_at s.heap its out.toArray
    have hlen : ((out.map SrtO.iv).map V.int).length ≤ sizeLine := by
      rw [List.length_map, k2.length_eq]
      rw [List.length_map] at hz
      exact hz
    exact ⟨.ref _, upd H (s.heap.objs.size + 1) (.lst ((out.map SrtO.iv).map V.int)), I.laid (t' := s.toks) (fun _ _ => PyProof.Rows.sortedAll_old) (Nat.le_succ _) ⟨hlen, out, ep, vals_of_ints k1, he'⟩, rfl, q _ _ k2 k3 (I.hok.fresh (Nat.le_succ _))⟩
def cSortA : DCl := fun ds M k => match ds with
  | [d] => (match seqD M d with
    | some xs => (match intsD xs with
      | some ns => k (.lst ((sortI ns).map D.int)) M
      | none => False)
    | none => False)
  | _ => False
theorem rd_sortA {K : PySem.W.Frag} : RdC K (rSortA K) cSortA := by
  intro H as M ds vs k Q hh rr q bk
  unfold cSortA at q
  split at q
  · rename_i d
    obtain ⟨v, rfl, rx⟩ := rXs1 rr
    split at q
    · rename_i xs e
      split at q
      · rename_i ns e0
        rw [intsD_eq e0] at e
        obtain ⟨p, ws, rfl, e2, e3⟩ := seq_at hh e rx
        have ew := repL_ints_inv e2
        subst ew
        have hq : SqL K H p (ns.map V.int) ∨ SqT K H p (ns.map V.int) := by
          rcases e3 with ⟨_, _, q⟩ | ⟨_, rfl, q⟩ | ⟨i, _, _, _, q⟩ | ⟨_, _, q⟩
          · exact .inl (hide_l q)
          · exact .inr (hide_t q)
          · exact .inl (SqL.of q)
          · exact .inl q
        refine ⟨p, ns, rfl, hq, fun ns' l p1 p2 hl => ?_⟩
        have en : ns' = sortI ns := sorted_unique (p1.trans (sortI_perm ns).symm) p2 (sortI_sorted ns)
        subst en
        obtain ⟨n2, h2, r2⟩ := new_lst hh hl (repL_ints (sortI ns))
        exact bk _ _ _ _ _ n2 h2 r2 q
      · exact q.elim
    · exact q.elim
  · exact q.elim

/-! ### xs[i] = e: e a datum or a cell; xs comes to stand behind all others -/
section
variable {X : Cx} {K : PySem.W.Frag} {as as1 : AS} {M M1 : Ms} {H H1 : Hp} {G : Gm} {s : L2.St} {kx : DX} {k : DK} {Q : VK} {a b c e : Expr} {da db dv : DTE} {pos : Pos}
/-- the items of a list cell -/
def lisX (M : Ms) (j : Nat) : Option (List D) := match M[j]? with
  | some (.ml ds) => some ds
  | some (.mx false ds) => some ds
  | _ => none
theorem plainL_refs : ∀ {ds : List D} {vs : List V}, repL K H ds vs → ∀ i, D.cell i ∉ ds
  | [], _, _, i, h => nomatch h
  | d :: ds, vs, r, i, h => by
    rw [repL] at r
    obtain ⟨v, t, rfl, r1, r2⟩ := r
    rcases List.mem_cons.mp h with z | z
    · subst z
      rw [rep] at r1
      exact r1
    · exact plainL_refs r2 i z
theorem lisX_at {j : Nat} {ds : List D} {p : Addr} (hh : Hold K as M H) (h : lisX M j = some ds) (e : as.l[j]? = some p) : ∃ vs mo, M[j]? = some mo ∧ mo ≠ .dead ∧ H p = some (.lst vs) ∧ repXs K as (hide as M H) ds vs := by
  unfold lisX at h
  split at h
  · rename_i ds' em
    cases h
    obtain ⟨p', ho, z1, z2, vs, rfl, rl⟩ := hh.cel j _ em (fun z => nomatch z)
    rw [e] at z1
    cases z1
    exact ⟨vs, _, em, (fun z => nomatch z), z2, repXs_of rl⟩
  · rename_i ds' em
    cases h
    obtain ⟨p', ho, z1, z2, vs, rfl, rl, _⟩ := hh.cel j _ em (fun z => nomatch z)
    rw [e] at z1
    cases z1
    exact ⟨vs, _, em, (fun z => nomatch z), by simpa using z2, rl⟩
  · cases h
theorem repXs_set {v : D} {vv : V} (r : repX K as H v vv) : ∀ {n : Nat} {ds : List D} {vs : List V}, repXs K as H ds vs → repXs K as H (ds.set n v) (vs.set n vv)
  | n, [], vs, h => by
    cases (show vs = [] from h)
    exact rfl
  | 0, d :: ds, _, ⟨w, t, rfl, h1, h2⟩ => ⟨vv, t, rfl, r, h2⟩
  | n + 1, d :: ds, _, ⟨w, t, rfl, h1, h2⟩ => ⟨w, t.set n vv, rfl, h1, repXs_set r h2⟩
def mvD (M : Ms) (o i v : D) : Option Ms := match o, i with
  | .cell j, .int z => (match lisX M j with
    | some ds => (match ixN ds.length z with
      | some n => some (M.set j .dead ++ [.mx false (ds.set n v)])
      | none => none)
    | none => none)
  | _, _ => none
def dSubS (sl : Nat) (db dv : DTE) : DTS := fun D G M => dv G M (fun v M1 => dVar sl G M1 (fun o M2 => db G M2 (fun i M3 => match mvD M3 o i v with
  | some M' => D.nx (G.set sl (some (.cell M3.length))) M'
  | none => False) (fun x M' => D.ex x G M')) (fun x M' => D.ex x G M')) (fun x M' => D.ex x G M')
theorem mv_ok {o i v : D} {vo vi vv : V} {M' : Ms} (hh : Hold K as M H) (h : mvD M o i v = some M') (ro : repX K as (hide as M H) o vo) (ri : repX K as (hide as M H) i vi) (rv : repX K as (hide as M H) v vv) :
    ∃ (p : Addr) (xs : List V) (k : Int) (j : Nat), vo = .ref p ∧ vi = .int k ∧ H p = some (.lst xs) ∧ ixN xs.length k = some j ∧ Hold K (as.snoc p) M' (upd H p (.lst (xs.set j vv))) ∧ Nx as M H (as.snoc p) M' (upd H p (.lst (xs.set j vv))) ∧
      repX K (as.snoc p) (hide (as.snoc p) M' (upd H p (.lst (xs.set j vv)))) (.cell M.length) (.ref p) := by
  unfold mvD at h
  split at h
  · rename_i j z
    split at h
    · rename_i ds e
      split at h
      · rename_i n e2
        cases h
        obtain ⟨p, e3, rfl⟩ := ro
        obtain ⟨xs, mo, em, hd, q2, rl⟩ := lisX_at hh e e3
        have r2 := repXs_set rv (n := n) rl
        obtain ⟨h1, n1⟩ := hh.move (mo' := .mx false (ds.set n v)) (ho' := .lst (xs.set n vv)) em hd (fun z => nomatch z) e3 ⟨_, rfl, r2, repXs_refs hh r2⟩
        exact ⟨p, xs, z, n, rfl, repX_int.mp ri, q2, by rw [← repXs_length rl]; exact e2, h1, n1, p, by show (as.l ++ [p])[M.length]? = _; rw [← hh.len]; simp, rfl⟩
      · cases h
    · cases h
  · cases h
theorem w1_subS {o i : Expr} {sl : Nat} {pos' : Pos} (ho : WE X o (dVar sl)) (hi : WE X i db) (he : WE X e dv) (hpl : PlainIx i) (hpg : ∀ {to ti : TE} {t : TSet}, PE X o to → PE X i ti → PSet X t → PG X (.Subscript o i pos') (gSub to ti t))
    (hs : swapsWithSole [Expr.Subscript o i pos'] e pos.line X.env = pure false := by rfl) (hw : swappedStores [Expr.Subscript o i pos'] e X.env = pure none := by rfl) : W1 X (.Assign [.Subscript o i pos'] e pos) (dSubS sl db dv) := ⟨fun {s H as G M D DE} stt hd tk rd =>
  PS.sem (ps_asg pe_sem (hpg pe_sem pe_sem set_list) hs hw) (he.run stt hd (takes_e tk) fun v H1 as1 v' M1 n1 h1 r1 q1 => by
    have q1' : dVar sl G M1 (fun o M2 => G[sl]? = some (some o) ∧ db G M2 (fun i M3 => match mvD M3 o i v' with
      | some M' => D.nx (G.set sl (some (.cell M3.length))) M'
      | none => False) (fun x M' => D.ex x G M')) (fun x M' => D.ex x G M') := by
      unfold dVar at q1 ⊢
      split at q1
      · rename_i d eg
        exact ⟨eg, q1⟩
      · exact q1.elim
    refine ho.run (stt.nx n1 h1) q1' (takes_e (XW.nx n1 tk)) fun o' H2 as2 o2 M2 n2 h2 r2 ⟨eg, q2⟩ => ?_
    refine hi.run (stt.nx (n1.trans n2) h2) q2 (takes_e (XW.nx (n1.trans n2) tk)) fun i' H3 as3 i3 M3 n3 h3 r3 q3 => ?_
    cases z : mvD M3 o2 i3 v' with
    | none => rw [z] at q3; exact q3.elim
    | some M' =>
      rw [z] at q3
      have n13 := (n1.trans n2).trans n3
      have st3 := stt.nx n13 h3
      obtain ⟨vs, es1, rs⟩ := st3.slots.2 sl _ eg
      obtain ⟨p, xs, kk, j, e1, e2, e3, e4, h4, n4, r4⟩ := mv_ok h3 z rs r3 (repX_nx (n2.trans n3) r1)
      have eo : o' = vs := by
        have r2' := repX_nx n3 r2
        unfold mvD at z
        split at z
        · obtain ⟨p1, e1', rfl⟩ := r2'
          obtain ⟨p2, e2', rfl⟩ := rs
          rw [e1'] at e2'
          cases e2'
          rfl
        · cases z
      subst eo
      have nn := n13.trans n4
      refine ⟨p, xs, kk, j, e1, e2, e3, e4, ?_⟩
      have st4 := (stt.nx nn h4).slots.set (i := sl) r4
      have es : s.set sl (some (.ref p)) = s := by
        apply List.ext_getElem?
        intro m
        by_cases c : sl = m
        · subst c
          rw [List.getElem?_set_self (List.getElem?_eq_some_iff.mp es1).1, es1, e1]
        · rw [List.getElem?_set_ne c]
      rw [es] at st4
      exact rd.nx s _ (as3.snoc p) _ M' nn ⟨h4, st4⟩ q3)⟩
end

/-! ### C(e, .., k = v, ..) with keyword-only parameters -/
/-- the keyword-only parameters' values: one of the keywords written, or a default -/
def pickK {α : Type} : List (Bool × Nat) → List α → List α → List α
  | [], _, _ => []
  | (true, i) :: sp, mv, ws => (match ws[i]? with
    | some w => w :: pickK sp mv ws
    | none => pickK sp mv ws)
  | (false, i) :: sp, mv, ws => (match mv[i]? with
    | some w => w :: pickK sp mv ws
    | none => pickK sp mv ws)
theorem vals_at {vs : List V} {us : List Value} (h : Vals vs us) : ∀ i : Nat, (vs[i]? = none ∧ us[i]? = none) ∨ ∃ v u, vs[i]? = some v ∧ us[i]? = some u ∧ RelV v u := by
  induction h with
  | nil => exact fun i => .inl ⟨by simp, by simp⟩
  | cons h1 h2 ih =>
    intro i
    cases i with
    | zero => exact .inr ⟨_, _, by simp, by simp, h1⟩
    | succ i => simpa using ih i
theorem vals_pick {mv ws : List V} {mu wu : List Value} (h1 : Vals mv mu) (h2 : Vals ws wu) : ∀ sp : List (Bool × Nat), Vals (pickK sp mv ws) (pickK sp mu wu)
  | [] => .nil
  | (true, i) :: sp => by
    unfold pickK
    rcases vals_at h2 i with ⟨e1, e2⟩ | ⟨v, u, e1, e2, r⟩
    · rw [e1, e2]
      exact vals_pick h1 h2 sp
    · rw [e1, e2]
      exact .cons r (vals_pick h1 h2 sp)
  | (false, i) :: sp => by
    unfold pickK
    rcases vals_at h1 i with ⟨e1, e2⟩ | ⟨v, u, e1, e2, r⟩
    · rw [e1, e2]
      exact vals_pick h1 h2 sp
    · rw [e1, e2]
      exact .cons r (vals_pick h1 h2 sp)
section
variable {K : PySem.W.Frag} {as : AS} {M : Ms} {H : Hp}
theorem repXs_gt {ds : List D} {vs : List V} (h : repXs K as H ds vs) (i : Nat) : (ds[i]? = none ∧ vs[i]? = none) ∨ ∃ d v, ds[i]? = some d ∧ vs[i]? = some v ∧ repX K as H d v := by
  cases e : ds[i]? with
  | none =>
    refine .inl ⟨rfl, ?_⟩
    rw [List.getElem?_eq_none_iff] at e ⊢
    rw [← repXs_length h]
    exact e
  | some d =>
    obtain ⟨v, e1, e2⟩ := repXs_get h e
    exact .inr ⟨d, v, rfl, e1, e2⟩
theorem repXs_pick {df zs : List D} {mv ws : List V} (h1 : repXs K as H df mv) (h2 : repXs K as H zs ws) : ∀ sp : List (Bool × Nat), repXs K as H (pickK sp df zs) (pickK sp mv ws)
  | [] => rfl
  | (true, i) :: sp => by
    unfold pickK
    rcases repXs_gt h2 i with ⟨e1, e2⟩ | ⟨v, u, e1, e2, r⟩
    · rw [e1, e2]
      exact repXs_pick h1 h2 sp
    · rw [e1, e2]
      exact ⟨_, _, rfl, r, repXs_pick h1 h2 sp⟩
  | (false, i) :: sp => by
    unfold pickK
    rcases repXs_gt h1 i with ⟨e1, e2⟩ | ⟨v, u, e1, e2, r⟩
    · rw [e1, e2]
      exact repXs_pick h1 h2 sp
    · rw [e1, e2]
      exact ⟨_, _, rfl, r, repXs_pick h1 h2 sp⟩
end
/-- the class C, called with n positional values and the keywords ks -/
structure OkK (P : Program) (w : World) (K : PySem.W.Frag) (mg : Str → Option Value) (base : Heap) (k : Nat) (C : Str) (n m : Nat) (ks : List Str) (sp : List (Bool × Nat)) (df : List D) (dn : DSp) : Prop where
  ex : ∃ f fd ps, ∃ (mu : List Value) (mv : List V), mg C = some (.ref (He.ga K C)) ∧ Mk K (He.ga K C) f ∧ KBn K fd ps (n + 1) ks (fun us ws => us ++ pickK sp mu ws) (fun vs zs => vs ++ pickK sp mv zs) ∧ (∀ H, repL K H df mv) ∧ FnOk P w K mg base (L2.CX P w) k f fd ps (lift K m dn)
theorem OkK.mono {P : Program} {w : World} {K : PySem.W.Frag} {mg : Str → Option Value} {base : Heap} {j k : Nat} {x : Str} {n m : Nat} {ks : List Str} {sp : List (Bool × Nat)} {df : List D} {dn : DSp} (h : OkK P w K mg base j x n m ks sp df dn) (hk : j ≤ k) : OkK P w K mg base k x n m ks sp df dn := by
  obtain ⟨f, fd, ps, mu, mv, h1, h2, h3, h4, h5⟩ := h.ex
  exact ⟨⟨f, fd, ps, mu, mv, h1, h2, h3, h4, h5.mono hk⟩⟩
/-- the class C, how its __init__ is called left open -/
structure OkB (P : Program) (w : World) (K : PySem.W.Frag) (mg : Str → Option Value) (base : Heap) (k : Nat) (C : Str) (m : Nat) (ps : List Str) (d : DD) (dn : DSp) : Prop where
  ex : ∃ fd, mg C = some (.ref (He.ga K C)) ∧ Mk K (He.ga K C) (adD K d) ∧ FunDD K d fd ∧ FnOk P w K mg base (L2.CX P w) k (adD K d) fd ps (lift K m dn)
section
variable {P : Program} {w : World} {K : PySem.W.Frag} {mg : Str → Option Value} {base : Heap} {x : Str} {d : DD} {fd : FuncData} {N ps : List Str} {k n : Nat} {b : DTS}
theorem okB {C : Str} (F : FunDD K d fd) (hg : mg C = some (.ref (He.ga K C))) (hm : Mk K (He.ga K C) (adD K d)) (S : FnScope N ps d.scope) (hn : ps.length = n) (body : Bod P w K mg base N d k b) : OkB P w K mg base (k + 1) C n ps d (dFn n N.length b) :=
  ⟨⟨_, hg, hm, F, fn_ok F S hn body⟩⟩
theorem okK {C : Str} {dn : DSp} {ks : List Str} {df : List D} {n m : Nat} (h : OkB P w K mg base k C m ps d dn) (sp : List (Bool × Nat)) (ms : List (Str × V)) (hd : d.dfl = []) (hk : d.kwd ≠ []) (hms : ∀ q ∈ ms, q ∈ d.kws K) (hdf : ∀ H, repL K H df (ms.map (·.2)))
    (hb : ∀ (T : Addr) (doc pm : Value) (an : Option Addr) (cdv ct : Value) (us mv ws : List Value), us.length = n + 1 → mv.length = ms.length → ws.length = ks.length →
      KwChain T ((ms.map (·.1)).zip mv) (bindArgs (PySem.W.fnOf d.name d.qual d.params d.body d.scope .none (.ref T) doc pm an cdv ct) ⟨us, ks.zip ws⟩) (ps.zip (us ++ pickK sp mv ws))) : OkK P w K mg base k C n m ks sp df dn := by
  obtain ⟨fd, h1, h2, F, h4⟩ := h.ex
  have F2 : FunD K d.name d.qual d.params d.body d.scope [] (d.kws K) (adD K d) fd := by
    have e : d.dvs K = [] := by
      unfold He.DefD.dvs
      rw [hd]
      rfl
    rw [← e]
    exact F
  obtain ⟨mu, h3⟩ := F2.kbinds0 (ps := ps) (n + 1) ks ms (fun us mv ws => us ++ pickK sp mv ws) (by
    unfold He.DefD.kws
    intro z
    exact hk (List.map_eq_nil_iff.mp z)) hms (fun r1 r2 r3 => r1.append (vals_pick r2 r3 sp)) hb
  exact ⟨⟨_, fd, ps, mu, _, h1, h2, h3, hdf, h4⟩⟩
end
def semK (X : Cx) (kws : List Keyword) : TA := fun s H Q => ∀ pos pins sh, Inv X pins s H sh → wpAny (model X.prog X.w) X.A (evalAll ((backToKw pos (keywordEach kws X.env)).map (·.2))) (AP X pins s Q) X.xe sh
theorem pk_sem {X : Cx} {kws : List Keyword} : PK X kws (semK X kws) := ⟨fun pos pins s σ H Q I h => h pos pins s I⟩
theorem PK.sem {X : Cx} {kws : List Keyword} {t : TA} (h : PK X kws t) {s : L2.St} {H : Hp} {Q : List V → Hp → Prop} (q : t s H Q) : semK X kws s H Q := fun pos pins sh I => h.run pos pins sh s H Q I q
structure WK (X : Cx) (kws : List Keyword) (d : DTA) : Prop where
  run : ∀ {s : L2.St} {H : Hp} {as : AS} {G : Gm} {M : Ms} {k : List D → Ms → Prop} {kx : DX} {Q : List V → Hp → Prop}, Stt X.K as G M s H → d G M k kx → Takes X (XWe X.K as M H G kx) →
    (∀ vs H' as' ds M', Nx as M H as' M' H' → Hold X.K as' M' H' → repXs X.K as' (hide as' M' H') ds vs → k ds M' → Q vs H') → semK X kws s H Q
section
variable {X : Cx} {K : PySem.W.Frag} {as as1 : AS} {M M1 : Ms} {H H1 : Hp} {G : Gm} {s : L2.St} {kx : DX} {k : DK} {Q : VK} {a b c e : Expr} {da db dv : DTE} {pos kpos : Pos}
theorem wk_nil : WK X [] dNil := ⟨fun {s H as G M k kx Q} st hd tk bk => PK.sem pk_nil (bk [] H as [] M Nx.refl st.hold rfl hd)⟩
theorem wk_cons {nm : Option Str} {kws : List Keyword} {dr : DTA} (ha : WE X e da) (hr : WK X kws dr) : WK X (⟨nm, e, kpos⟩ :: kws) (dCons da dr) := ⟨fun {s H as G M k kx Q} st hd tk bk =>
  PK.sem (pk_cons pe_sem pk_sem) (ha.run st hd tk fun v H' as' d' M' n h r q =>
    hr.run (Q := fun xs H2 => Q (v :: xs) H2) (st.nx n h) q (XW.nx n tk) fun vs H2 as2 ds M2 n2 h2 r2 q2 => bk (v :: vs) H2 as2 (d' :: ds) M2 (n.trans n2) h2 ⟨v, vs, rfl, repX_nx n2 r, r2⟩ q2)⟩
def dMakeK (C : Str) (n m : Nat) (nk : Nat) (sp : List (Bool × Nat)) (df : List D) (dn : DSp) (dt dk : DTA) : DTE := fun G M k kx => dt G M (fun ds M0 => dk G M0 (fun zs M1 => ds.length = n ∧ zs.length = nk ∧ (D.cell M1.length :: (ds ++ pickK sp df zs)).length = m ∧
  dn (.cell M1.length :: (ds ++ pickK sp df zs)) (M1 ++ [.mi C []]) (mkK M1.length k) (fun x M' => kx x (M'.take M1.length))) kx) kx
theorem run_mkK {j n m : Nat} {C : Str} {f : Addr} {fd : FuncData} {ps ks : List Str} {dn : DSp} {sp : List (Bool × Nat)} {ds zs df : List D} {us ws mu : List Value} {vs wv mv : List V} {pins : List (Addr × Obj)} {sh : Shared} (Mm : Mk X.K (He.ga X.K C) f) (F : FnOk X.prog X.w X.K X.mg X.base (L2.CX X.prog X.w) j f fd ps (lift X.K m dn)) (hr : Room (j + 1) X.A)
    (hb : KBn X.K fd ps (n + 1) ks (fun us ws => us ++ pickK sp mu ws) (fun vs zs => vs ++ pickK sp mv zs)) (hdf : ∀ H, repL X.K H df mv)
    (st : Stt X.K as G M s H) (rx : repXs X.K as (hide as M H) ds vs) (rz : repXs X.K as (hide as M H) zs wv) (l1 : ds.length = n) (l2 : zs.length = ks.length) (hl : (D.cell M.length :: (ds ++ pickK sp df zs)).length = m) (q : dn (.cell M.length :: (ds ++ pickK sp df zs)) (M ++ [.mi C []]) (mkK M.length k) (fun x M' => kx x (M'.take M.length))) (tk : Takes X (XWe X.K as M H G kx)) (bk : Back X.K as M H k Q) (I : Inv X pins s H sh) (r : Vals vs us) (r' : Vals wv ws) :
    wpAny (model X.prog X.w) X.A (call (.ref (He.ga X.K C)) us (ks.zip ws)) (EP X pins s Q) X.xe sh := by
  obtain ⟨dx, hdx⟩ : ∃ dx, dx = sh.heap.objs.size := ⟨_, rfl⟩
  have z1 : H dx = none := by rw [hdx]; exact I.hok.fresh (Nat.le_refl _)
  have z2 : H (dx + 1) = none := by rw [hdx]; exact I.hok.fresh (Nat.le_succ _)
  have ndx : dx + 1 ≠ dx := Nat.succ_ne_self _
  obtain ⟨h1, n1, _⟩ := st.hold.imm (o := .own (dx + 1)) z1
  obtain ⟨h2, n2⟩ := h1.mut (p := dx + 1) (mo := .mi C []) (ho := .ins (He.ga X.K C) dx []) (by rw [upd_ne ndx]; exact z2) (fun z => nomatch z) ⟨dx, [], rfl, repL_nil⟩
  have n12 := n1.trans n2
  have r1 : Vals (V.ref (dx + 1) :: vs) (Value.ref (dx + 1) :: us) := .cons rfl r
  have r2 : Vals ((V.ref (dx + 1) :: vs) ++ pickK sp mv wv) ((Value.ref (dx + 1) :: us) ++ pickK sp mu ws) := hb.rel r1 r'
  have rx2 : repXs X.K (as.snoc (dx + 1)) (hide (as.snoc (dx + 1)) (M ++ [.mi C []]) (upd (upd H dx (.own (dx + 1))) (dx + 1) (.ins (He.ga X.K C) dx []))) (D.cell M.length :: (ds ++ pickK sp df zs)) (V.ref (dx + 1) :: (vs ++ pickK sp mv wv)) :=
    ⟨_, _, rfl, ⟨dx + 1, by show (as.l ++ [dx + 1])[M.length]? = _; rw [← st.hold.len]; simp, rfl⟩, repXs_append (repXs_nx n12 rx) (repXs_pick (repXs_of (hdf _)) (repXs_nx n12 rz) sp)⟩
  have hlen : (V.ref (dx + 1) :: (vs ++ pickK sp mv wv)).length = m := by rw [← repXs_length rx2]; exact hl
  have spp : lift X.K m dn (V.ref (dx + 1) :: (vs ++ pickK sp mv wv)) (upd (upd H dx (.own (dx + 1))) (dx + 1) (.ins (He.ga X.K C) dx [])) (fun v H2 => v = .non ∧ Q (.ref (dx + 1)) H2) (fun cls dd H' => XWe X.K as M H G kx cls dd s H') := by
    refine ⟨hlen, _, _, _, _, _, h2, rx2, q, ?_, ?_⟩
    · intro v H' as' d' M' n' hh rr qq
      obtain ⟨rfl, qq⟩ := qq
      refine ⟨repX_non.mp rr, ?_⟩
      cases e : M'[M.length]? with
      | none => rw [e] at qq; exact qq.elim
      | some mo =>
        rw [e] at qq
        cases mo with
        | mi C' fs =>
          have fz : fzD M' M.length = some (.ins C' (fs.map (·.1)) (fs.map (·.2)), M'.set M.length .dead) := by
            unfold fzD
            rw [e]
          have ap : as'.l[M.length]? = some (dx + 1) := pre_get n'.pre (by show (as.l ++ [dx + 1])[M.length]? = _; rw [← st.hold.len]; simp)
          obtain ⟨n3, h3, r3⟩ := fz_ok hh fz ap
          obtain ⟨h4, n4, ex4⟩ := drop_nx ((n12.trans n').trans n3) st.hold h3
          have em : (M'.set M.length .dead).take M.length = M'.take M.length := by
            apply List.ext_getElem?
            intro j
            rw [List.getElem?_take, List.getElem?_take]
            split
            · rename_i hj
              rw [List.getElem?_set_ne (by omega)]
            · rfl
          rw [em] at h4 n4 ex4
          exact bk _ H' as _ _ n4 h4 (repX_of (rep_mono ex4 _ _ r3)) qq
        | _ => exact qq.elim
    · intro x cls dd H' as' M' n' h' xc q'
      obtain ⟨h4, n4, ex4⟩ := drop_nx (n12.trans n') st.hold h'
      exact ⟨x, G, as, _, n4, st.nx n4 h4, xcIs_mono ex4 xc, rfl, q'⟩
  have e1 : (Value.ref (dx + 1) :: us).length = n + 1 := by
    rw [List.length_cons, ← r.length, ← repXs_length rx, l1]
  have e2 : ws.length = ks.length := by rw [← r'.length, ← repXs_length rz, l2]
  subst hdx
  have I2 := Inv.made (C := He.ga X.K C) I
  refine wpAny_call (make_map (f := f) I.kIn Mm.makes Mm.init (beq_iff_eq.mp Mm.fn) (codeAny_mono (F.run _ X.stack _ _ ⟨Value.ref (sh.heap.objs.size + 1) :: us, ks.zip ws⟩ ((Value.ref (sh.heap.objs.size + 1) :: us) ++ pickK sp mu ws) _ _ _ (hr.make (He.ga X.K C) us (ks.zip ws))
    (I2.env0.make (He.ga X.K C) us (ks.zip ws)) (hb.to _ (Value.ref (sh.heap.objs.size + 1) :: us) ws I2.kIn e1 e2) r2 spp) fun r s' hq' => ?_))
  cases r with
  | error e => exact passAt tk s pins _ _ e s' I2 hq'
  | ok fl =>
    cases fl with
    | ret u =>
      obtain ⟨v, H', I3, rv, ev, q3⟩ := I2.after hq'
      subst ev
      exact ⟨rv, ⟨V.ref (sh.heap.objs.size + 1), H', I3, rfl, q3⟩⟩
    | next => exact False.elim hq'
    | brk => exact False.elim hq'
    | cont => exact False.elim hq'
theorem we_makeK {C : Str} {p : Pos} {es : List Expr} {kws : List Keyword} {dt dk : DTA} {j n m nk : Nat} {ks : List Str} {sp : List (Bool × Nat)} {df : List D} {dn : DSp} (F : OkK X.prog X.w X.K X.mg X.base j C n m ks sp df dn) (hr : Room (j + 1) X.A) (hg : Gl X C) (ha : WA X (e :: es) dt) (hk : WK X kws dk)
    (hall : (backToKw pos (keywordEach kws X.env)).all (·.1.isSome) = true := by rfl) (hks : (backToKw pos (keywordEach kws X.env)).filterMap (·.1) = ks := by rfl) (hdb : (C == ("__debug__" : Str)) = false := by decide)
    (he : starEach (e :: es) X.env = (false, eval e X.env) :: starEach es X.env := by rfl) (hpl : ((backTo pos (starEach (e :: es) X.env)).any (·.1) || (backToKw pos (keywordEach kws X.env)).any (·.1.isNone)) = false := by rfl) (hnk : ks.length = nk := by rfl) :
    WE X (.Call (.Name C p) (e :: es) kws pos) (dMakeK C n m nk sp df dn dt dk) := by
  subst hnk
  exact ⟨fun {s H as G M k kx Q} st hd tk bk pins sh I => by
  obtain ⟨f, fd, ps, mu, mv, h1, h2, h3, h4, h5⟩ := F.ex
  refine wpAny_Call_Name_kw (ld_glob I hg h1 ?_ hdb)
  refine PySem.W.callWith_KW (h₀ := X.base) I.ok.mod.kin h2.kp hall (thn (ha.run (Q := fun vs H1 => ∃ as1 ds M1, Nx as M H as1 M1 H1 ∧ Hold X.K as1 M1 H1 ∧ repXs X.K as1 (hide as1 M1 H1) ds vs ∧ dk G M1 (fun zs M2 => ds.length = n ∧ zs.length = ks.length ∧ (D.cell M2.length :: (ds ++ pickK sp df zs)).length = m ∧
    dn (.cell M2.length :: (ds ++ pickK sp df zs)) (M2 ++ [.mi C []]) (mkK M2.length k) (fun x M' => kx x (M'.take M2.length))) kx) st hd tk (fun vs H' as' ds M' n' hh rx q => ⟨as', ds, M', n', hh, rx, q⟩) pos pins sh I) fun us s1 ⟨vs, H1, I1, r, as1, ds, M1, n1, hh1, rx, q⟩ => ?_) hpl he
  refine thn (hk.run (Q := fun wv H2 => ∃ as2 zs M2, Nx as1 M1 H1 as2 M2 H2 ∧ Hold X.K as2 M2 H2 ∧ repXs X.K as2 (hide as2 M2 H2) zs wv ∧ (ds.length = n ∧ zs.length = ks.length ∧ (D.cell M2.length :: (ds ++ pickK sp df zs)).length = m ∧
    dn (.cell M2.length :: (ds ++ pickK sp df zs)) (M2 ++ [.mi C []]) (mkK M2.length k) (fun x M' => kx x (M'.take M2.length)))) (st.nx n1 hh1) q (XW.nx n1 tk) (fun vs H' as' ds M' n' hh rx q => ⟨as', ds, M', n', hh, rx, q⟩) pos pins s1 I1) fun ws s2 ⟨wv, H2, I2, r2, as2, zs, M2, n2, hh2, rx2, l1, l2, hl, q2⟩ => ⟨I2.kIn, ?_⟩
  rw [hks]
  exact run_mkK h2 h5 hr h3 h4 (st.nx (n1.trans n2) hh2) (repXs_nx n2 rx) rx2 l1 l2 hl q2 (XW.nx (n1.trans n2) tk) (bk.nx (n1.trans n2)) I2 r r2⟩
end

/-! ### a default that is an empty tuple -/
/-- where the keyword-only default x of the def at_ stands -/
def kwAt (f : Str × Option Str) (x : Str) (K : PySem.W.Frag) : Addr := match K.lookup (He.fAd K f) with
  | some ⟨_, _, .func fd, _⟩ => (match fd.kwdefaults with
    | .ref T => (match PySem.W.nsIn K T x with
      | some (some (.ref a)) => a
      | _ => 0)
    | _ => 0)
  | _ => 0
def fTup0 (f : Str × Option Str) (x : Str) : Fact := fun K => match K.lookup (kwAt f x K) with
  | some ⟨c, _, .seq its _, _⟩ => (match c with
    | .type t => t == "tuple" && its.isEmpty
    | _ => false)
  | _ => false
theorem tup0_ok {K : PySem.W.Frag} {f : Str × Option Str} {x : Str} (h : fTup0 f x K = true) {H : Hp} : rep K H (.tup []) (.ref (kwAt f x K)) := by
  unfold fTup0 at h
  cases e : K.lookup (kwAt f x K) with
  | none => rw [e] at h; cases h
  | some o =>
    rw [e] at h
    obtain ⟨oc, od, dt, osl⟩ := o
    cases dt with
    | seq its n =>
      cases oc with
      | type t =>
        have h2 : (t == "tuple" && its.isEmpty) = true := h
        rw [Bool.and_eq_true] at h2
        have et : t = "tuple" := by simpa using h2.1
        have ei : its = #[] := by simpa using h2.2
        subst et ei
        rw [rep]
        exact ⟨_, [], rfl, .inr ⟨_, #[], n, e, rfl, rfl, Nat.zero_le _, .nil⟩, repL_nil⟩
      | _ => cases h
    | _ => cases h
theorem Txt.tup0 {P : Program} {fs : List Fact} {fn : List DD} {K : PySem.W.Frag} {mg : Str → Option Value} (t : Txt P fs fn K mg) (i : Nat) {f : Str × Option Str} {x : Str} (h : fs[i]? = some (fTup0 f x) := by rfl) : ∀ H, rep K H (.tup []) (.ref (kwAt f x K)) := fun H => tup0_ok (t.fact i h)
end DL

/-! DLp: readings reckoned with. -/
namespace DL
open PySem PySem.Spec PyProof.Rows L2 Evl
open Classical

theorem nr {α : Sort _} {a b : α} (h : a = b) : a = b := h
section
variable {G : Gm} {M : Ms} {k : DK} {kx : DX} {E : DEnds} {x y : D} {i j n m : Int} {a b c : DTE} {t u : DTT} {d1 d2 : DTS}
@[simp] theorem e_dFn {n sl : Nat} {body : DTS} {ds : List D} : dFn n sl body ds M k kx = (ds.length = n ∧ body ⟨fun _ M' => k .non (M'.take M.length), outK M.length k, fun _ _ => False, fun _ _ => False, fun x _ M' => kx x (M'.take M.length)⟩ (ds.map some ++ List.replicate (sl - n) none) M) := nr rfl
@[simp] theorem e_dFnC {n sl : Nat} {body : DTS} {ds : List D} : dFnC n sl body ds M k kx = (ds.length = n ∧ body ⟨fun _ M' => k .non (M'.take M.length), outC M.length k, fun _ _ => False, fun _ _ => False, fun x _ M' => kx x (M'.take M.length)⟩ (ds.map some ++ List.replicate (sl - n) none) M) := nr rfl
@[simp] theorem e_dSeq : dSeq d1 d2 E G M = d1 ⟨fun G' M' => d2 E G' M', E.rt, E.bk, E.ct, E.ex⟩ G M := nr rfl
@[simp] theorem e_dNext : dNext E G M = E.nx G M := nr rfl
@[simp] theorem e_dAsg {i : Nat} : dAsg i a E G M = a G M (fun d M' => E.nx (G.set i (some d)) M') (fun x M' => E.ex x G M') := nr rfl
@[simp] theorem e_dExp : dExp a E G M = a G M (fun _ M' => E.nx G M') (fun x M' => E.ex x G M') := nr rfl
@[simp] theorem e_dRet : dRet a E G M = a G M E.rt (fun x M' => E.ex x G M') := nr rfl
@[simp] theorem e_dRetN : dRetN E G M = E.rt .non M := nr rfl
@[simp] theorem e_dIf : dIf t d1 d2 E G M = t G M (fun c M' => if c = true then d1 E G M' else d2 E G M') (fun x M' => E.ex x G M') := nr rfl
@[simp] theorem e_dBrk : dBrk E G M = E.bk G M := nr rfl
@[simp] theorem e_dCnt : dCnt E G M = E.ct G M := nr rfl
@[simp] theorem e_dRaise {C : Str} : dRaise C E G M = E.ex ⟨C, [], []⟩ G M := nr rfl
@[simp] theorem e_dFor {di : DTI} {bd : DBd} {body : DTS} : dFor di bd body E G M = di G M (fun xs gd M' => forD bd body gd E xs G M') (fun x M' => E.ex x G M') := nr rfl
@[simp] theorem e_dC {d : D} : dC d G M k kx = k d M := nr rfl
@[simp] theorem e_dVar {i : Nat} : dVar i G M k kx = (match G[i]? with
  | some (some d) => k d M
  | _ => False) := nr rfl
@[simp] theorem e_dBin {f : DOp} : dBin f a b G M k kx = a G M (fun x M1 => b G M1 (fun y M2 => f x y M2 k kx) kx) kx := nr rfl
@[simp] theorem e_dUn {f : DUn} : dUn f a G M k kx = a G M (fun x M1 => f x M1 k kx) kx := nr rfl
@[simp] theorem e_fOr {f g : DOp} : fOr f g x y M k kx = (f x y M k kx ∨ g x y M k kx) := nr rfl
@[simp] theorem e_unOr {f g : DUn} : unOr f g x M k kx = (f x M k kx ∨ g x M k kx) := nr rfl
@[simp] theorem e_dB {k : Bool → Ms → Prop} : dB a G M k kx = a G M (fun d M' => match d with
  | .bl c => k c M'
  | _ => False) kx := nr rfl
@[simp] theorem e_dTr {k : Bool → Ms → Prop} : dTr a G M k kx = a G M (fun d M' => match truD M' d with
  | some c => k c M'
  | none => False) kx := nr rfl
@[simp] theorem e_dAnd {k : Bool → Ms → Prop} : dAnd t u G M k kx = t G M (fun c M1 => if c = true then u G M1 k kx else k false M1) kx := nr rfl
@[simp] theorem e_dOr {k : Bool → Ms → Prop} : dOr t u G M k kx = t G M (fun c M1 => if c = true then k true M1 else u G M1 k kx) kx := nr rfl
@[simp] theorem e_dNot {k : Bool → Ms → Prop} : dNot t G M k kx = t G M (fun c M1 => k (!c) M1) kx := nr rfl
@[simp] theorem e_dYes {k : Bool → Ms → Prop} : dYes G M k kx = k true M := nr rfl
/-- a truth value splits -/
def mB (z : D) (p q : Prop) : Prop := match z with
  | .bl true => p
  | .bl false => q
  | _ => False
@[simp] theorem e_mB {c : Bool} {p q : Prop} : mB (.bl c) p q = if c = true then p else q := by cases c <;> exact nr rfl
@[simp] theorem e_dAndV : dAndV a b G M k kx = a G M (fun x M1 => mB x (b G M1 k kx) (k (.bl false) M1)) kx := nr rfl
@[simp] theorem e_dOrV : dOrV a b G M k kx = a G M (fun x M1 => mB x (k (.bl true) M1) (b G M1 k kx)) kx := nr rfl
@[simp] theorem e_dNil {k : List D → Ms → Prop} : dNil G M k kx = k [] M := nr rfl
@[simp] theorem e_dCons {dr : DTA} {k : List D → Ms → Prop} : dCons a dr G M k kx = a G M (fun x M1 => dr G M1 (fun xs M2 => k (x :: xs) M2) kx) kx := nr rfl
@[simp] theorem e_dTup {dt : DTA} : dTup dt G M k kx = dt G M (fun ds M1 => ds.all plain = true ∧ ds.length ≤ big ∧ k (.tup ds) M1) kx := nr rfl
@[simp] theorem e_dLst {dt : DTA} : dLst dt G M k kx = dt G M (fun ds M1 => ds.all plain = true ∧ ds.length ≤ big ∧ k (.lst ds) M1) kx := nr rfl
@[simp] theorem e_dLstM {dt : DTA} : dLstM dt G M k kx = dt G M (fun ds M1 => ds.all plain = true ∧ ds.length ≤ big ∧ k (.cell M1.length) (M1 ++ [.ml ds])) kx := nr rfl
@[simp] theorem e_dCB {f : DCl} {dt : DTA} : dCB f dt G M k kx = dt G M (fun ds M1 => f ds M1 k) kx := nr rfl
@[simp] theorem e_dCo {f : DCo} {dt : DTA} : dCo f dt G M k kx = dt G M (fun ds M1 => f ds M1 k kx) kx := nr rfl
@[simp] theorem e_coOr {f g : DCo} {ds : List D} : coOr f g ds M k kx = (f ds M k kx ∨ g ds M k kx) := nr rfl
@[simp] theorem e_coR {f : DCl} {ds : List D} : coR f ds M k kx = f ds M k := nr rfl
@[simp] theorem e_dCall {n : Nat} {df : List D} {dn : DSp} {dt : DTA} : dCall n df dn dt G M k kx = dt G M (fun ds M1 => (ds ++ df).length = n ∧ dn (ds ++ df) M1 k kx) kx := nr rfl
@[simp] theorem e_dFld {cs : List Str} {f : Str} : dFld cs f a G M k kx = a G M (fun o M1 => match insD M1 o with
  | some (C, ns, ds) => C ∈ cs ∧ (match lookD f ns ds with
    | some d => k d M1
    | none => False)
  | none => False) kx := nr rfl
@[simp] theorem e_dSub : dSub a b c E G M = c G M (fun v M1 => a G M1 (fun o M2 => b G M2 (fun i M3 => match stoD M3 o i v with
  | some M' => E.nx G M'
  | none => False) (fun x M' => E.ex x G M')) (fun x M' => E.ex x G M')) (fun x M' => E.ex x G M') := nr rfl
@[simp] theorem e_dLc {di : DTI} {bd : DBd} {dt : DTT} {vs : List Nat} {k2 : List D → Ms → DK → Prop} : dLc di bd dt a vs k2 G M k kx = di G M (fun xs gd M1 => xs.length ≤ big ∧ lcD bd dt a gd (wipeG G vs) xs [] M1 (fun acc M2 => k2 acc M2 k)) kx := nr rfl
@[simp] theorem e_toLst {ds : List D} : toLst ds M k = k (.lst ds) M := nr rfl
@[simp] theorem e_toCell {ds : List D} : toCell ds M k = k (.cell M.length) (M ++ [.ml ds]) := nr rfl
@[simp] theorem e_iRng1 {k : List D → (Ms → Prop) → Ms → Prop} : iRng1 a G M k kx = a G M (fun x M1 => match x with
  | .int n => -(2 ^ 40) ≤ n ∧ n < 2 ^ 40 ∧ k (rngD 0 n) (fun _ => True) M1
  | _ => False) kx := nr rfl
@[simp] theorem e_iRng2 {k : List D → (Ms → Prop) → Ms → Prop} : iRng2 a b G M k kx = a G M (fun x M1 => b G M1 (fun y M2 => match x, y with
  | .int a, .int b => (-(2 ^ 40) ≤ a ∧ a < 2 ^ 40 ∧ -(2 ^ 40) ≤ b ∧ b < 2 ^ 40) ∧ k (rngD a b) (fun _ => True) M2
  | _, _ => False) kx) kx := nr rfl
@[simp] theorem e_iAny {fs : List (Str × Str)} {k : List D → (Ms → Prop) → Ms → Prop} : iAny fs a G M k kx = a G M (fun d M' => match itD fs M' d with
  | some (xs, gd) => k xs gd M'
  | none => False) kx := nr rfl
@[simp] theorem e_dRg1 {k2 : List D → Ms → DK → Prop} : dRg1 a k2 G M k kx = a G M (fun x M1 => match x with
  | .int n => rgB 0 n ∧ k2 (rngD 0 n) M1 k
  | _ => False) kx := nr rfl
@[simp] theorem e_outK_c {n0 i : Nat} : outK n0 k (.cell i) M = (if i < n0 then k (.cell i) (M.take n0) else (match fzD M i with
    | some (x, _) => k x (M.take n0)
    | none => False)) := nr rfl
@[simp] theorem e_outK_int {n0 : Nat} : outK n0 k (.int i) M = k (.int i) (M.take n0) := nr rfl
@[simp] theorem e_outK_bl {n0 : Nat} {b : Bool} : outK n0 k (.bl b) M = k (.bl b) (M.take n0) := nr rfl
@[simp] theorem e_outK_lst {n0 : Nat} {ds : List D} : outK n0 k (.lst ds) M = k (.lst ds) (M.take n0) := nr rfl
@[simp] theorem e_outK_tup {n0 : Nat} {ds : List D} : outK n0 k (.tup ds) M = k (.tup ds) (M.take n0) := nr rfl
@[simp] theorem e_outK_non {n0 : Nat} : outK n0 k .non M = k .non (M.take n0) := nr rfl
@[simp] theorem e_outK_str {n0 : Nat} {z : Str} : outK n0 k (.str z) M = k (.str z) (M.take n0) := nr rfl
@[simp] theorem e_outK_ins {n0 : Nat} {C : Str} {ns : List Str} {ds : List D} : outK n0 k (.ins C ns ds) M = k (.ins C ns ds) (M.take n0) := nr rfl
@[simp] theorem e_outC_c {n0 i : Nat} : outC n0 k (.cell i) M = (if i < n0 then k (.cell i) (M.take n0) else (match M[i]? with
    | some (.mx _ _) => False
    | some mo => mo ≠ .dead ∧ k (.cell n0) (M.take n0 ++ [mo])
    | none => False)) := nr rfl
/-! ### numbers -/
@[simp] theorem e_fAdd : fAdd (.int i) (.int j) M k kx = k (.int (i + j)) M := nr rfl
@[simp] theorem e_fSub : fSub (.int i) (.int j) M k kx = k (.int (i - j)) M := nr rfl
@[simp] theorem e_fLt : fLt (.int i) (.int j) M k kx = k (.bl (decide (i < j))) M := nr rfl
@[simp] theorem e_fLe : fLe (.int i) (.int j) M k kx = k (.bl (decide (i ≤ j))) M := nr rfl
@[simp] theorem e_fGt : fGt (.int i) (.int j) M k kx = k (.bl (decide (j < i))) M := nr rfl
@[simp] theorem e_fGe : fGe (.int i) (.int j) M k kx = k (.bl (decide (j ≤ i))) M := nr rfl
@[simp] theorem e_fNeg : fNeg (.int i) M k kx = k (.int (-i)) M := nr rfl
theorem fII_if {P : Prop} [Decidable P] {h : Int → Int → D} {f : Int → Int → Option D} (hf : f i j = if P then some (h i j) else none) : fII f (.int i) (.int j) M k kx = (P ∧ k (h i j) M) := by
  unfold fII
  simp only [hf]
  by_cases p : P <;> simp [p]
@[simp] theorem e_fMul : fMul (.int i) (.int j) M k kx = ((smallI i || smallI j) = true ∧ k (.int (i * j)) M) := fII_if (h := fun i j => .int (i * j)) rfl
@[simp] theorem e_fMod : fMod (.int i) (.int j) M k kx = (0 < j ∧ k (.int (i % j)) M) := fII_if (h := fun i j => .int (i % j)) rfl
@[simp] theorem e_fDiv : fDiv (.int i) (.int j) M k kx = ((0 < j ∧ j < 18446744073709551616) ∧ k (.int (i / j)) M) := fII_if (h := fun i j => .int (i / j)) rfl
@[simp] theorem e_fPow : fPow (.int i) (.int j) M k kx = ((0 ≤ j ∧ j ≤ 1000000 ∧ i.natAbs < 2 ^ 64) ∧ k (.int (i ^ j.toNat)) M) := fII_if (h := fun i j => .int (i ^ j.toNat)) rfl
@[simp] theorem e_fShl : fShl (.int i) (.int j) M k kx = ((0 ≤ j ∧ j ≤ 1000000 ∧ i.natAbs < 2 ^ 64) ∧ k (.int (i * 2 ^ j.toNat)) M) := fII_if (h := fun i j => .int (i * 2 ^ j.toNat)) rfl
@[simp] theorem e_fShr : fShr (.int i) (.int j) M k kx = (0 ≤ j ∧ k (.int (i / 2 ^ j.toNat)) M) := fII_if (h := fun i j => .int (i / 2 ^ j.toNat)) rfl
@[simp] theorem e_fBand : fBand (.int i) (.int j) M k kx = k (.int (Builtin.bitAnd i j)) M := nr rfl
@[simp] theorem e_fBor : fBor (.int i) (.int j) M k kx = k (.int (Builtin.bitOr i j)) M := nr rfl
@[simp] theorem e_fBxor : fBxor (.int i) (.int j) M k kx = k (.int (Builtin.bitXor i j)) M := nr rfl
@[simp] theorem e_fEqS_i : fEqS (.int i) (.int j) M k kx = k (.bl (decide (i = j))) M := nr rfl
@[simp] theorem e_fNeS_i : fNeS (.int i) (.int j) M k kx = k (.bl (!decide (i = j))) M := nr rfl
@[simp] theorem e_fEqS_b {p q : Bool} : fEqS (.bl p) (.bl q) M k kx = k (.bl (p == q)) M := nr rfl
@[simp] theorem e_fEqS_s {p q : Str} : fEqS (.str p) (.str q) M k kx = k (.bl (decide (p = q))) M := nr rfl
@[simp] theorem e_cInt : cInt [.int i] M k = k (.int i) M := nr rfl
@[simp] theorem e_cInt_b {p : Bool} : cInt [.bl p] M k = k (.int (if p = true then 1 else 0)) M := by
  cases p <;> rfl
@[simp] theorem e_cAbs : cAbs [.int i] M k = k (.int (if i < 0 then -i else i)) M := nr rfl
/-! ### places -/
theorem e_ix {ds : List D} {d : D} (h : seqD M x = some ds) (ha : atI ds i = some d) : fIx x (.int i) M k kx = k d M := by
  rw [fIx_seq h, ha]
theorem e_sto {j : Nat} {ds : List D} {v : D} {p : Nat} (h : M[j]? = some (.ml ds)) (hi : ixN ds.length i = some p) (hv : plain v = true) : stoD M (.cell j) (.int i) v = some (M.set j (.ml (ds.set p v))) := by
  unfold stoD
  simp only [h, hi, hv, if_true]
@[simp] theorem take_self {α : Type} {l : List α} : l.take l.length = l := List.take_length
@[simp] theorem take_set_self {α : Type} {l : List α} {i : Nat} {a : α} : (l.set i a).take l.length = l.set i a := by
  rw [List.take_of_length_le]
  simp

@[simp] theorem e_dMake {C : Str} {n : Nat} {df : List D} {dn : DSp} {dt : DTA} : dMake C n df dn dt G M k kx = dt G M (fun ds M1 => (D.cell M1.length :: (ds ++ df)).length = n ∧ dn (.cell M1.length :: (ds ++ df)) (M1 ++ [.mi C []]) (mkK M1.length k) (fun x M' => kx x (M'.take M1.length))) kx := nr rfl
@[simp] theorem e_dSetF {cs : List Str} {f : Str} : dSetF cs f a b E G M = b G M (fun v M1 => a G M1 (fun o M2 => match o with
  | .cell i => (match M2[i]? with
    | some (.mi C fs) => C ∈ cs ∧ plain v = true ∧ fs.length < 1000 ∧ E.nx G (M2.set i (.mi C (putD f v fs)))
    | _ => False)
  | _ => False) (fun x M' => E.ex x G M')) (fun x M' => E.ex x G M') := nr rfl
@[simp] theorem e_dApp : dApp a b G M k kx = a G M (fun o M1 => isLC M1 o = true ∧ b G M1 (fun v M2 => match appD M2 o v with
  | some M' => k .non M'
  | none => False) kx) kx := nr rfl
@[simp] theorem e_dMeth {m : Str} {t : MTab} {dt : DTA} : dMeth m t a dt G M k kx = a G M (fun o M1 => match insD M1 o with
  | some (C, ns, _) => m ∉ ns ∧ (match t.lookup C with
    | some (n, df, dn) => dt G M1 (fun ds M2 => (o :: (ds ++ df)).length = n ∧ dn (o :: (ds ++ df)) M2 k kx) kx
    | none => False)
  | none => False) kx := nr rfl
@[simp] theorem e_dChain {f g : DOp} : dChain f g a b c G M k kx = a G M (fun x M1 => b G M1 (fun y M2 => f x y M2 (fun z M3 => mB z (c G M3 (fun w M4 => g y w M4 k kx) kx) (k (.bl false) M3)) kx) kx) kx := nr rfl
@[simp] theorem e_dIfE : dIfE t a b G M k kx = t G M (fun c M1 => if c = true then a G M1 k kx else b G M1 k kx) kx := nr rfl
@[simp] theorem e_dNotV : dNotV a G M k kx = a G M (fun x M1 => match x with
  | .bl c => k (.bl (!c)) M1
  | _ => False) kx := nr rfl
@[simp] theorem e_insD {C : Str} {ns : List Str} {ds : List D} : insD M (.ins C ns ds) = some (C, ns, ds) := nr rfl
@[simp] theorem e_tru_bl {p : Bool} : truD M (.bl p) = some p := nr rfl
@[simp] theorem e_tru_int : truD M (.int i) = some (i != 0) := nr rfl
@[simp] theorem e_tru_lst {ds : List D} : truD M (.lst ds) = some (!ds.isEmpty) := nr rfl
@[simp] theorem e_tru_tup {ds : List D} : truD M (.tup ds) = some (!ds.isEmpty) := nr rfl
@[simp] theorem e_it_lst {fs : List (Str × Str)} {ds : List D} : itD fs M (.lst ds) = some (ds, fun _ => True) := nr rfl
@[simp] theorem e_it_tup {fs : List (Str × Str)} {ds : List D} : itD fs M (.tup ds) = some (ds, fun _ => True) := nr rfl
@[simp] theorem e_seq_rl {ds : List D} : seqD M (.rl ds) = some ds := nr rfl
@[simp] theorem e_wipe_nil {G : Gm} : wipeG G [] = G := nr rfl
@[simp] theorem e_wipe_cons {G : Gm} {v : Nat} {vs : List Nat} : wipeG G (v :: vs) = (wipeG G vs).set v none := nr rfl
@[simp] theorem e_bName {i : Nat} {d : D} {G : Gm} : bName i d G = some (G.set i (some d)) := nr rfl
theorem rng0 (n : Int) : rngD 0 n = (List.range n.toNat).map fun i => D.int (i : Nat) := by
  unfold rngD
  simp

@[simp] theorem e_dTry {t : List (Str × Bool)} {body suite : DTS} : dTry t body suite E G M = body { E with ex := fun x G' M' => match t.lookup x.C with
  | some true => suite { E with ex := exNo } G' M'
  | some false => E.ex x G' M'
  | none => False } G M := nr rfl
@[simp] theorem e_dTryAs {t : List (Str × Bool)} {i : Nat} {body : DTS} {suite : Addr → Option Addr → XD → DTS} : dTryAs t i body suite E G M = body { E with ex := fun x G' M' => match t.lookup x.C with
  | some true => ∀ a dd, suite a dd x ⟨fun G2 => E.nx (G2.set i none), E.rt, fun G2 => E.bk (G2.set i none), fun G2 => E.ct (G2.set i none), exNo⟩ (G'.set i (some (.xo a dd x.C x.ns x.ds))) M'
  | some false => E.ex x G' M'
  | none => False } G M := nr rfl
theorem e_in {neg : Bool} {ds : List D} (h : seqD M y = some ds) (hx : scalD x = true) (hd : ds.all scalD = true) : fIn neg x y M k kx = k (.bl (xor neg (ds.any fun d => eqS d x))) M := by
  unfold fIn
  rw [h]
  simp [hx, hd]
/-! ### loops -/
theorem for_seq {bd : DBd} {body : DTS} {gd : Ms → Prop} (P : List D → Gm → Ms → Prop) (hg : ∀ r G M, P r G M → gd M)
    (step : ∀ x r G M (N : Gm → Ms → Prop), P (x :: r) G M → (∀ G M, P r G M → N G M) → ∃ G', bd x G = some G' ∧ body { E with nx := N, ct := N, bk := E.nx } G' M)
    (done : ∀ G M, P [] G M → E.nx G M) : ∀ (xs : List D) (G : Gm) (M : Ms), P xs G M → forD bd body gd E xs G M
  | [], G, M, h => ⟨hg _ _ _ h, done _ _ h⟩
  | x :: xs, G, M, h => by
    obtain ⟨G', e, q⟩ := step x xs G M (forD bd body gd E xs) h (for_seq P hg step done xs)
    refine ⟨hg _ _ _ h, ?_⟩
    rw [e]
    exact q
theorem lc_seq {bd : DBd} {dt : DTT} {de : DTE} {gd : Ms → Prop} {k : List D → Ms → Prop} (P : List D → List D → Ms → Prop) (hg : ∀ r acc M, P r acc M → gd M)
    (step : ∀ x r acc M (N : List D → Ms → Prop), P (x :: r) acc M → (∀ acc M, P r acc M → N acc M) → ∃ G', bd x G = some G' ∧ dt G' M (fun c M1 => if c = true then de G' M1 (fun y M2 => plain y = true ∧ N (acc ++ [y]) M2) X0 else N acc M1) X0)
    (done : ∀ acc M, P [] acc M → k acc M) : ∀ (xs acc : List D) (M : Ms), P xs acc M → lcD bd dt de gd G xs acc M k
  | [], acc, M, h => ⟨hg _ _ _ h, done _ _ h⟩
  | x :: xs, acc, M, h => by
    obtain ⟨G', e, q⟩ := step x xs acc M (fun acc M => lcD bd dt de gd G xs acc M k) h (fun acc M h => lc_seq P hg step done xs acc M h)
    refine ⟨hg _ _ _ h, ?_⟩
    rw [e]
    exact q
/-- a comprehension that changes nothing -/
theorem lc_pure {bd : DBd} {dt : DTT} {de : DTE} {gd : Ms → Prop} {k : List D → Ms → Prop} (p : D → Bool) (f : D → D) {xs : List D} (hg : gd M)
    (h : ∀ x ∈ xs, ∃ G', bd x G = some G' ∧ (∀ K : Bool → Ms → Prop, K (p x) M → dt G' M K X0) ∧ (p x = true → plain (f x) = true ∧ ∀ K : DK, K (f x) M → de G' M K X0))
    (hk : k ((xs.filter p).map f) M) : lcD bd dt de gd G xs [] M k := by
  refine lc_seq (P := fun r acc M' => M' = M ∧ (∀ x ∈ r, x ∈ xs) ∧ acc ++ (r.filter p).map f = (xs.filter p).map f) (fun r acc M' q => q.1 ▸ hg) (fun x r acc M' N q hN => ?_) (fun acc M' q => ?_) xs [] M ⟨rfl, fun _ h => h, by simp⟩
  · obtain ⟨rfl, hm, e⟩ := q
    obtain ⟨G', e1, e2, e3⟩ := h x (hm x (List.mem_cons_self ..))
    refine ⟨G', e1, e2 _ ?_⟩
    by_cases c : p x = true
    · rw [c, if_pos rfl]
      obtain ⟨e4, e5⟩ := e3 c
      refine e5 _ ⟨e4, hN _ _ ⟨rfl, fun y hy => hm y (List.mem_cons_of_mem _ hy), ?_⟩⟩
      rw [← e, List.filter_cons_of_pos c]
      simp
    · rw [if_neg c]
      refine hN _ _ ⟨rfl, fun y hy => hm y (List.mem_cons_of_mem _ hy), ?_⟩
      rw [← e, List.filter_cons_of_neg c]
  · obtain ⟨rfl, _, e⟩ := q
    rw [← e] at hk
    simpa using hk
/-! ### bits -/
theorem bAnd (p q : Nat) : Builtin.bitAnd (p : Int) (q : Int) = ((p &&& q : Nat) : Int) := by
  unfold Builtin.bitAnd
  simp
theorem bOr (p q : Nat) : Builtin.bitOr (p : Int) (q : Int) = ((p ||| q : Nat) : Int) := by
  unfold Builtin.bitOr Builtin.bitAnd Builtin.bitNot
  have h1 : decide ((0 : Int) ≤ -(p : Int) - 1) = false := decide_eq_false (by omega)
  have h2 : decide ((0 : Int) ≤ -(q : Int) - 1) = false := decide_eq_false (by omega)
  have e1 : (-(-(p : Int) - 1) - 1) = (p : Int) := by omega
  have e2 : (-(-(q : Int) - 1) - 1) = (q : Int) := by omega
  rw [h1, h2]
  simp only [e1, e2, Int.toNat_natCast]
  omega
theorem shr_nat (p i : Nat) : ((p : Int) / 2 ^ i) = ((p >>> i : Nat) : Int) := by
  rw [Nat.shiftRight_eq_div_pow]
  simp
/-! ### isinstance of built-in data -/
@[simp] theorem e_isi_non_int {t : ITab} : cIsi t [.non, .ty "int"] M k = k (.bl false) M := by
  have e : isB "NoneType" "int" = some false := by decide +kernel
  show (match isB "NoneType" "int" with
    | some r => k (.bl r) M
    | none => False) = _
  rw [e]
@[simp] theorem e_isi_non_bool {t : ITab} : cIsi t [.non, .ty "bool"] M k = k (.bl false) M := by
  have e : isB "NoneType" "bool" = some false := by decide +kernel
  show (match isB "NoneType" "bool" with
    | some r => k (.bl r) M
    | none => False) = _
  rw [e]
@[simp] theorem e_isi_non_str {t : ITab} : cIsi t [.non, .ty "str"] M k = k (.bl false) M := by
  have e : isB "NoneType" "str" = some false := by decide +kernel
  show (match isB "NoneType" "str" with
    | some r => k (.bl r) M
    | none => False) = _
  rw [e]
@[simp] theorem e_isi_non_list {t : ITab} : cIsi t [.non, .ty "list"] M k = k (.bl false) M := by
  have e : isB "NoneType" "list" = some false := by decide +kernel
  show (match isB "NoneType" "list" with
    | some r => k (.bl r) M
    | none => False) = _
  rw [e]
@[simp] theorem e_isi_non_tuple {t : ITab} : cIsi t [.non, .ty "tuple"] M k = k (.bl false) M := by
  have e : isB "NoneType" "tuple" = some false := by decide +kernel
  show (match isB "NoneType" "tuple" with
    | some r => k (.bl r) M
    | none => False) = _
  rw [e]
@[simp] theorem e_isi_bl_int {t : ITab} {p : Bool} : cIsi t [.bl p, .ty "int"] M k = k (.bl true) M := by
  have e : isB "bool" "int" = some true := by decide +kernel
  show (match isB "bool" "int" with
    | some r => k (.bl r) M
    | none => False) = _
  rw [e]
@[simp] theorem e_isi_bl_bool {t : ITab} {p : Bool} : cIsi t [.bl p, .ty "bool"] M k = k (.bl true) M := by
  have e : isB "bool" "bool" = some true := by decide +kernel
  show (match isB "bool" "bool" with
    | some r => k (.bl r) M
    | none => False) = _
  rw [e]
@[simp] theorem e_isi_bl_str {t : ITab} {p : Bool} : cIsi t [.bl p, .ty "str"] M k = k (.bl false) M := by
  have e : isB "bool" "str" = some false := by decide +kernel
  show (match isB "bool" "str" with
    | some r => k (.bl r) M
    | none => False) = _
  rw [e]
@[simp] theorem e_isi_bl_list {t : ITab} {p : Bool} : cIsi t [.bl p, .ty "list"] M k = k (.bl false) M := by
  have e : isB "bool" "list" = some false := by decide +kernel
  show (match isB "bool" "list" with
    | some r => k (.bl r) M
    | none => False) = _
  rw [e]
@[simp] theorem e_isi_bl_tuple {t : ITab} {p : Bool} : cIsi t [.bl p, .ty "tuple"] M k = k (.bl false) M := by
  have e : isB "bool" "tuple" = some false := by decide +kernel
  show (match isB "bool" "tuple" with
    | some r => k (.bl r) M
    | none => False) = _
  rw [e]
@[simp] theorem e_isi_int_int {t : ITab} : cIsi t [.int i, .ty "int"] M k = k (.bl true) M := by
  have e : isB "int" "int" = some true := by decide +kernel
  show (match isB "int" "int" with
    | some r => k (.bl r) M
    | none => False) = _
  rw [e]
@[simp] theorem e_isi_int_bool {t : ITab} : cIsi t [.int i, .ty "bool"] M k = k (.bl false) M := by
  have e : isB "int" "bool" = some false := by decide +kernel
  show (match isB "int" "bool" with
    | some r => k (.bl r) M
    | none => False) = _
  rw [e]
@[simp] theorem e_isi_int_str {t : ITab} : cIsi t [.int i, .ty "str"] M k = k (.bl false) M := by
  have e : isB "int" "str" = some false := by decide +kernel
  show (match isB "int" "str" with
    | some r => k (.bl r) M
    | none => False) = _
  rw [e]
@[simp] theorem e_isi_int_list {t : ITab} : cIsi t [.int i, .ty "list"] M k = k (.bl false) M := by
  have e : isB "int" "list" = some false := by decide +kernel
  show (match isB "int" "list" with
    | some r => k (.bl r) M
    | none => False) = _
  rw [e]
@[simp] theorem e_isi_int_tuple {t : ITab} : cIsi t [.int i, .ty "tuple"] M k = k (.bl false) M := by
  have e : isB "int" "tuple" = some false := by decide +kernel
  show (match isB "int" "tuple" with
    | some r => k (.bl r) M
    | none => False) = _
  rw [e]
@[simp] theorem e_isi_str_int {t : ITab} {z : Str} : cIsi t [.str z, .ty "int"] M k = k (.bl false) M := by
  have e : isB "str" "int" = some false := by decide +kernel
  show (match isB "str" "int" with
    | some r => k (.bl r) M
    | none => False) = _
  rw [e]
@[simp] theorem e_isi_str_bool {t : ITab} {z : Str} : cIsi t [.str z, .ty "bool"] M k = k (.bl false) M := by
  have e : isB "str" "bool" = some false := by decide +kernel
  show (match isB "str" "bool" with
    | some r => k (.bl r) M
    | none => False) = _
  rw [e]
@[simp] theorem e_isi_str_str {t : ITab} {z : Str} : cIsi t [.str z, .ty "str"] M k = k (.bl true) M := by
  have e : isB "str" "str" = some true := by decide +kernel
  show (match isB "str" "str" with
    | some r => k (.bl r) M
    | none => False) = _
  rw [e]
@[simp] theorem e_isi_str_list {t : ITab} {z : Str} : cIsi t [.str z, .ty "list"] M k = k (.bl false) M := by
  have e : isB "str" "list" = some false := by decide +kernel
  show (match isB "str" "list" with
    | some r => k (.bl r) M
    | none => False) = _
  rw [e]
@[simp] theorem e_isi_str_tuple {t : ITab} {z : Str} : cIsi t [.str z, .ty "tuple"] M k = k (.bl false) M := by
  have e : isB "str" "tuple" = some false := by decide +kernel
  show (match isB "str" "tuple" with
    | some r => k (.bl r) M
    | none => False) = _
  rw [e]
@[simp] theorem e_isi_lst_int {t : ITab} {ds : List D} : cIsi t [.lst ds, .ty "int"] M k = k (.bl false) M := by
  have e : isB "list" "int" = some false := by decide +kernel
  show (match isB "list" "int" with
    | some r => k (.bl r) M
    | none => False) = _
  rw [e]
@[simp] theorem e_isi_lst_bool {t : ITab} {ds : List D} : cIsi t [.lst ds, .ty "bool"] M k = k (.bl false) M := by
  have e : isB "list" "bool" = some false := by decide +kernel
  show (match isB "list" "bool" with
    | some r => k (.bl r) M
    | none => False) = _
  rw [e]
@[simp] theorem e_isi_lst_str {t : ITab} {ds : List D} : cIsi t [.lst ds, .ty "str"] M k = k (.bl false) M := by
  have e : isB "list" "str" = some false := by decide +kernel
  show (match isB "list" "str" with
    | some r => k (.bl r) M
    | none => False) = _
  rw [e]
@[simp] theorem e_isi_lst_list {t : ITab} {ds : List D} : cIsi t [.lst ds, .ty "list"] M k = k (.bl true) M := by
  have e : isB "list" "list" = some true := by decide +kernel
  show (match isB "list" "list" with
    | some r => k (.bl r) M
    | none => False) = _
  rw [e]
@[simp] theorem e_isi_lst_tuple {t : ITab} {ds : List D} : cIsi t [.lst ds, .ty "tuple"] M k = k (.bl false) M := by
  have e : isB "list" "tuple" = some false := by decide +kernel
  show (match isB "list" "tuple" with
    | some r => k (.bl r) M
    | none => False) = _
  rw [e]
@[simp] theorem e_isi_tup_int {t : ITab} {ds : List D} : cIsi t [.tup ds, .ty "int"] M k = k (.bl false) M := by
  have e : isB "tuple" "int" = some false := by decide +kernel
  show (match isB "tuple" "int" with
    | some r => k (.bl r) M
    | none => False) = _
  rw [e]
@[simp] theorem e_isi_tup_bool {t : ITab} {ds : List D} : cIsi t [.tup ds, .ty "bool"] M k = k (.bl false) M := by
  have e : isB "tuple" "bool" = some false := by decide +kernel
  show (match isB "tuple" "bool" with
    | some r => k (.bl r) M
    | none => False) = _
  rw [e]
@[simp] theorem e_isi_tup_str {t : ITab} {ds : List D} : cIsi t [.tup ds, .ty "str"] M k = k (.bl false) M := by
  have e : isB "tuple" "str" = some false := by decide +kernel
  show (match isB "tuple" "str" with
    | some r => k (.bl r) M
    | none => False) = _
  rw [e]
@[simp] theorem e_isi_tup_list {t : ITab} {ds : List D} : cIsi t [.tup ds, .ty "list"] M k = k (.bl false) M := by
  have e : isB "tuple" "list" = some false := by decide +kernel
  show (match isB "tuple" "list" with
    | some r => k (.bl r) M
    | none => False) = _
  rw [e]
@[simp] theorem e_isi_tup_tuple {t : ITab} {ds : List D} : cIsi t [.tup ds, .ty "tuple"] M k = k (.bl true) M := by
  have e : isB "tuple" "tuple" = some true := by decide +kernel
  show (match isB "tuple" "tuple" with
    | some r => k (.bl r) M
    | none => False) = _
  rw [e]
@[simp] theorem e_is_non_non : fIs (.non) .non M k kx = k (.bl true) M := by simp [fIs, notRaw]
@[simp] theorem e_isn_non_non : fIsNot (.non) .non M k kx = k (.bl false) M := by simp [fIsNot, notRaw]
@[simp] theorem e_is_non_bl {q : Bool} : fIs (.non) (.bl q) M k kx = k (.bl false) M := by simp [fIs, notRaw]
@[simp] theorem e_isn_non_bl {q : Bool} : fIsNot (.non) (.bl q) M k kx = k (.bl true) M := by simp [fIsNot, notRaw]
@[simp] theorem e_is_bl_non {p : Bool} : fIs (.bl p) .non M k kx = k (.bl false) M := by simp [fIs, notRaw]
@[simp] theorem e_isn_bl_non {p : Bool} : fIsNot (.bl p) .non M k kx = k (.bl true) M := by simp [fIsNot, notRaw]
@[simp] theorem e_is_bl_bl {p : Bool} {q : Bool} : fIs (.bl p) (.bl q) M k kx = k (.bl (p == q)) M := by simp [fIs, notRaw]
@[simp] theorem e_isn_bl_bl {p : Bool} {q : Bool} : fIsNot (.bl p) (.bl q) M k kx = k (.bl (!(p == q))) M := by simp [fIsNot, notRaw]
@[simp] theorem e_is_int_non : fIs (.int i) .non M k kx = k (.bl false) M := by simp [fIs, notRaw]
@[simp] theorem e_isn_int_non : fIsNot (.int i) .non M k kx = k (.bl true) M := by simp [fIsNot, notRaw]
@[simp] theorem e_is_int_bl {q : Bool} : fIs (.int i) (.bl q) M k kx = k (.bl false) M := by simp [fIs, notRaw]
@[simp] theorem e_isn_int_bl {q : Bool} : fIsNot (.int i) (.bl q) M k kx = k (.bl true) M := by simp [fIsNot, notRaw]
@[simp] theorem e_is_str_non {z : Str} : fIs (.str z) .non M k kx = k (.bl false) M := by simp [fIs, notRaw]
@[simp] theorem e_isn_str_non {z : Str} : fIsNot (.str z) .non M k kx = k (.bl true) M := by simp [fIsNot, notRaw]
@[simp] theorem e_is_str_bl {z : Str} {q : Bool} : fIs (.str z) (.bl q) M k kx = k (.bl false) M := by simp [fIs, notRaw]
@[simp] theorem e_isn_str_bl {z : Str} {q : Bool} : fIsNot (.str z) (.bl q) M k kx = k (.bl true) M := by simp [fIsNot, notRaw]
@[simp] theorem e_is_lst_non {ds : List D} : fIs (.lst ds) .non M k kx = k (.bl false) M := by simp [fIs, notRaw]
@[simp] theorem e_isn_lst_non {ds : List D} : fIsNot (.lst ds) .non M k kx = k (.bl true) M := by simp [fIsNot, notRaw]
@[simp] theorem e_is_lst_bl {ds : List D} {q : Bool} : fIs (.lst ds) (.bl q) M k kx = k (.bl false) M := by simp [fIs, notRaw]
@[simp] theorem e_isn_lst_bl {ds : List D} {q : Bool} : fIsNot (.lst ds) (.bl q) M k kx = k (.bl true) M := by simp [fIsNot, notRaw]
@[simp] theorem e_is_tup_non {ds : List D} : fIs (.tup ds) .non M k kx = k (.bl false) M := by simp [fIs, notRaw]
@[simp] theorem e_isn_tup_non {ds : List D} : fIsNot (.tup ds) .non M k kx = k (.bl true) M := by simp [fIsNot, notRaw]
@[simp] theorem e_is_tup_bl {ds : List D} {q : Bool} : fIs (.tup ds) (.bl q) M k kx = k (.bl false) M := by simp [fIs, notRaw]
@[simp] theorem e_isn_tup_bl {ds : List D} {q : Bool} : fIsNot (.tup ds) (.bl q) M k kx = k (.bl true) M := by simp [fIsNot, notRaw]
@[simp] theorem e_len_lst {ds : List D} : cLen [.lst ds] M k = k (.int ds.length) M := nr rfl
@[simp] theorem e_len_tup {ds : List D} : cLen [.tup ds] M k = k (.int ds.length) M := nr rfl
@[simp] theorem e_len_rl {ds : List D} : cLen [.rl ds] M k = k (.int ds.length) M := nr rfl
theorem e_len_cell {j : Nat} {ds : List D} (h : M[j]? = some (.ml ds)) : cLen [.cell j] M k = k (.int ds.length) M := by
  simp [cLen, lenD, seqX_ceq, h]
theorem e_len_mx {j : Nat} {tp : Bool} {ds : List D} (h : M[j]? = some (.mx tp ds)) : cLen [.cell j] M k = k (.int ds.length) M := by
  simp [cLen, lenD, seqX_ceq, h]
theorem e_ixX {ds : List D} {d : D} (h : seqX M x = some ds) (ha : atI ds i = some d) : fIx x (.int i) M k kx = k d M := by
  rw [fIx_seqX h, ha]
@[simp] theorem e_dTupX {dt : DTA} : dTupX dt G M k kx = dt G M (fun ds M1 => ds.length ≤ big ∧ k (.cell M1.length) (M1 ++ [.mx true ds])) kx := nr rfl
@[simp] theorem e_dLstX {dt : DTA} : dLstX dt G M k kx = dt G M (fun ds M1 => ds.length ≤ big ∧ k (.cell M1.length) (M1 ++ [.mx false ds])) kx := nr rfl
@[simp] theorem e_dFnX {n sl : Nat} {body : DTS} {ds : List D} : dFnX n sl body ds M k kx = (ds.length = n ∧ body ⟨fun _ M' => k .non M', k, fun _ _ => False, fun _ _ => False, fun x _ M' => kx x (M'.take M.length)⟩ (ds.map some ++ List.replicate (sl - n) none) M) := nr rfl
@[simp] theorem e_dSubS {sl : Nat} : dSubS sl b c E G M = c G M (fun v M1 => dVar sl G M1 (fun o M2 => b G M2 (fun i M3 => match mvD M3 o i v with
  | some M' => E.nx (G.set sl (some (.cell M3.length))) M'
  | none => False) (fun x M' => E.ex x G M')) (fun x M' => E.ex x G M')) (fun x M' => E.ex x G M') := nr rfl
@[simp] theorem e_dMakeK {C : Str} {n m nk : Nat} {sp : List (Bool × Nat)} {df : List D} {dn : DSp} {dt dk : DTA} : dMakeK C n m nk sp df dn dt dk G M k kx = dt G M (fun ds M0 => dk G M0 (fun zs M1 => ds.length = n ∧ zs.length = nk ∧ (D.cell M1.length :: (ds ++ pickK sp df zs)).length = m ∧
  dn (.cell M1.length :: (ds ++ pickK sp df zs)) (M1 ++ [.mi C []]) (mkK M1.length k) (fun x M' => kx x (M'.take M1.length))) kx) kx := nr rfl
@[simp] theorem e_sortA_l {ns : List Int} : cSortA [.lst (ns.map D.int)] M k = k (.lst ((sortI ns).map D.int)) M := by
  unfold cSortA
  simp only [seqD, intsD_map]
@[simp] theorem e_sortA_t {ns : List Int} : cSortA [.tup (ns.map D.int)] M k = k (.lst ((sortI ns).map D.int)) M := by
  unfold cSortA
  simp only [seqD, intsD_map]
@[simp] theorem e_sortA_n : cSortA [.tup []] M k = k (.lst []) M := by
  unfold cSortA
  simp only [seqD, intsD]
  rfl
theorem sortA_c {ns : List Int} {j : Nat} (h : M[j]? = some (.ml (ns.map D.int))) : cSortA [.cell j] M k = k (.lst ((sortI ns).map D.int)) M := by
  unfold cSortA
  simp only [seqD, h, intsD_map]
@[simp] theorem e_dSortSet : dSortSet a G M k kx = a G M (fun d M1 => match lisD M1 d with
  | some ds => (match intsD ds with
    | some ns => ns.length < 64 ∧ ∀ ms : List Int, ms.Pairwise (· < ·) → (∀ j, j ∈ ms ↔ j ∈ ns) → k (.lst (ms.map D.int)) M1
    | none => False)
  | none => False) kx := nr rfl
@[simp] theorem e_dAugSub {f : Int → Int → Int} : dAugSub f a b c E G M = a G M (fun o M1 => b G M1 (fun i M2 => match cellI M2 o i with
  | some x => c G M2 (fun v M3 => match v with
    | .int y => (match stoD M3 o i (.int (f x y)) with
      | some M' => E.nx G M'
      | none => False)
    | _ => False) (fun x M' => E.ex x G M')
  | none => False) (fun x M' => E.ex x G M')) (fun x M' => E.ex x G M') := nr rfl
/-! ### the later readings -/
@[simp] theorem e_dAttr {cs : List Str} {f : Str} {t : MTab} : dAttr cs f t a G M k kx = a G M (fun o M1 => attD cs f t o M1 k) kx := nr rfl
@[simp] theorem e_attD {cs : List Str} {f : Str} {t : MTab} {C : Str} {ns : List Str} {ds : List D} : attD cs f t (.ins C ns ds) M k = (match t.lookup C with
    | some (n, df, dn) => ([D.ins C ns ds] ++ df).length = n ∧ dn ([D.ins C ns ds] ++ df) M k X0
    | none => C ∈ cs ∧ (match lookD f ns ds with
      | some d => k d M
      | none => False)) := nr rfl
@[simp] theorem e_cMax3 {i j l : Int} {k : DK} : cMax3 [.int i, .int j, .int l] M k = k (.int (max (max i j) l)) M := nr rfl
@[simp] theorem e_cMin3 {i j l : Int} {k : DK} : cMin3 [.int i, .int j, .int l] M k = k (.int (min (min i j) l)) M := nr rfl
@[simp] theorem e_dPop : dPop a G M k kx = a G M (fun o M1 => match o with
  | .cell j => (match M1[j]? with
    | some (.ml ds) => (match ds.getLast? with
      | some d => k d (M1.set j (.ml ds.dropLast))
      | none => False)
    | _ => False)
  | _ => False) kx := nr rfl
@[simp] theorem e_dPopAt : dPopAt a b G M k kx = a G M (fun o M1 => isLC M1 o = true ∧ b G M1 (fun v M2 => match popD M2 o v with
  | some (d, M') => k d M'
  | none => False) kx) kx := nr rfl
@[simp] theorem e_dExtend : dExtend a b G M k kx = a G M (fun o M1 => isLC M1 o = true ∧ b G M1 (fun v M2 => match extD M2 o v with
  | some M' => k .non M'
  | none => False) kx) kx := nr rfl
@[simp] theorem e_dInsert {dw : DTE} : dInsert a b dw G M k kx = a G M (fun o M1 => isLC M1 o = true ∧ b G M1 (fun v M2 => dw G M2 (fun w M3 => match insD1 M3 o v w with
  | some M' => k .non M'
  | none => False) kx) kx) kx := nr rfl
@[simp] theorem e_cGcd {i j : Int} {k : DK} : cGcd [.int i, .int j] M k = k (.int ((Nat.gcd i.natAbs j.natAbs : Nat) : Int)) M := nr rfl
@[simp] theorem e_dIndex : dIndex a b G M k kx = a G M (fun o M1 => (lisD M1 o).isSome = true ∧ b G M1 (fun x M2 => match lisD M2 o with
  | some ds => scalD x = true ∧ ds.all scalD = true ∧ (match idxD ds x with
    | some j => k (.int j) M2
    | none => False)
  | none => False) kx) kx := nr rfl
@[simp] theorem e_dRevIn : dRevIn a G M k kx = a G M (fun o M1 => match o with
  | .cell j => (match M1[j]? with
    | some (.ml ds) => k .non (M1.set j (.ml ds.reverse))
    | _ => False)
  | _ => False) kx := nr rfl
@[simp] theorem e_dClear : dClear a G M k kx = a G M (fun o M1 => match o with
  | .cell j => (match M1[j]? with
    | some (.ml _) => k .non (M1.set j (.ml []))
    | _ => False)
  | _ => False) kx := nr rfl
@[simp] theorem e_dRevS {k2 : List D → Ms → DK → Prop} : dRevS k2 a G M k kx = a G M (fun o M1 => match lisD M1 o with
  | some ds => k2 ds.reverse M1 k
  | none => False) kx := nr rfl
@[simp] theorem e_lis_lst {ds : List D} : lisD M (.lst ds) = some ds := nr rfl
@[simp] theorem e_dAugI {op : DOp} {i : Nat} : dAugI op i a E G M = (match G[i]? with
  | some (some x) => a G M (fun y M1 => op x y M1 (fun d M2 => E.nx (G.set i (some d)) M2) (fun z M' => E.ex z G M')) (fun z M' => E.ex z G M')
  | _ => False) := nr rfl
@[simp] theorem e_iEnumD {k : List D → (Ms → Prop) → Ms → Prop} : iEnumD a G M k kx = a G M (fun d M' => match walkD M' d with
  | some (ds, gd) => k (enumD ds) gd M'
  | none => False) kx := nr rfl
@[simp] theorem e_iEnumT {k : List D → (Ms → Prop) → Ms → Prop} : iEnumT a G M k kx = a G M (fun d M' => match d with
  | .tup ds => k (enumD ds) (fun _ => True) M'
  | d => (match walkD M' d with
    | some (ds, gd) => k (enumD ds) gd M'
    | none => False)) kx := nr rfl
@[simp] theorem e_iZipD {k : List D → (Ms → Prop) → Ms → Prop} : iZipD a b G M k kx = a G M (fun d M1 => b G M1 (fun d2 M2 => match walkD M2 d, walkD M2 d2 with
  | some (ds, gd), some (es, gd2) => k (zipD ds es) (fun M => gd M ∧ gd2 M) M2
  | _, _ => False) kx) kx := nr rfl
@[simp] theorem e_walk_lst {ds : List D} : walkD M (.lst ds) = some (ds, fun _ => True) := nr rfl
@[simp] theorem e_walk_rl {ds : List D} : walkD M (.rl ds) = some (ds, fun _ => True) := nr rfl
@[simp] theorem e_dAsgT {bd : DBd} : dAsgT bd a E G M = a G M (fun d M1 => plain d = true ∧ match bd d G with
  | some G' => E.nx G' M1
  | none => False) (fun x M' => E.ex x G M') := nr rfl
@[simp] theorem e_bTup {bs : List DBd} {ds : List D} : bTup bs (.tup ds) G = if ds.length = bs.length then bAll bs ds G else none := nr rfl
@[simp] theorem e_bAll_nil {ds : List D} : bAll [] ds G = some G := nr rfl
@[simp] theorem e_bAll_cons {bd : DBd} {bs : List DBd} {d : D} {ds : List D} : bAll (bd :: bs) (d :: ds) G = (match bd d G with
    | some G1 => bAll bs ds G1
    | none => none) := nr rfl
@[simp] theorem e_dChT {d : D → DTT} {k : Bool → Ms → Prop} : dChT a d G M k kx = a G M (fun x M1 => d x G M1 k kx) kx := nr rfl
@[simp] theorem e_dCh1 {f : DOp} {k : Bool → Ms → Prop} : dCh1 f b x G M k kx = b G M (fun y M2 => f x y M2 (fun z M3 => match z with
  | .bl c => k c M3
  | _ => False) kx) kx := nr rfl
@[simp] theorem e_dChN {f : DOp} {d : D → DTT} {k : Bool → Ms → Prop} : dChN f b d x G M k kx = b G M (fun y M2 => f x y M2 (fun z M3 => mB z (d y G M3 k kx) (k false M3)) kx) kx := nr rfl
@[simp] theorem e_dLc2 {di di1 : DTI} {bd bd1 : DBd} {dt dt1 : DTT} {vs vs1 : List Nat} {k2 : List D → Ms → DK → Prop} : dLc2 di bd dt di1 bd1 dt1 a vs vs1 k2 G M k kx = di G M (fun xs gd M1 => lc2D bd dt di1 bd1 dt1 a gd vs1 (wipeG G vs) xs [] M1 (fun acc M2 => k2 acc M2 k)) kx := nr rfl
@[simp] theorem e_fOwnI {t : MTab} {C : Str} {ns : List Str} {ds : List D} : fOwnI t (.ins C ns ds) (.int i) M k kx = (match t.lookup C with
    | some (n, df, dn) => ([D.ins C ns ds, .int i] ++ df).length = n ∧ dn ([D.ins C ns ds, .int i] ++ df) M k kx
    | none => False) := nr rfl
@[simp] theorem e_fOwnIR {t : MTab} {C : Str} {ns : List Str} {ds : List D} : fOwnIR t (.int i) (.ins C ns ds) M k kx = (match t.lookup C with
    | some (n, df, dn) => ([D.ins C ns ds, .int i] ++ df).length = n ∧ dn ([D.ins C ns ds, .int i] ++ df) M k kx
    | none => False) := nr rfl
@[simp] theorem e_fOwn {t : MTab} {C C' : Str} {ns ns' : List Str} {ds ds' : List D} : fOwn t (.ins C ns ds) (.ins C' ns' ds') M k kx = (C' = C ∧ (match t.lookup C with
    | some (n, df, dn) => ([D.ins C ns ds, .ins C' ns' ds'] ++ df).length = n ∧ dn ([D.ins C ns ds, .ins C' ns' ds'] ++ df) M k kx
    | none => False)) := nr rfl
@[simp] theorem e_cMax2 : cMax2 [.int i, .int j] M k = k (.int (max i j)) M := nr rfl
@[simp] theorem e_cMin2 : cMin2 [.int i, .int j] M k = k (.int (min i j)) M := nr rfl
@[simp] theorem e_dSl {k2 : List D → Ms → DK → Prop} {dl dh : DTO} : dSl k2 a dl dh G M k kx = a G M (fun x M1 => dl G M1 (fun lo M2 => dh G M2 (fun hi M3 => slD k2 lo hi x M3 k) kx) kx) kx := nr rfl
@[simp] theorem e_dNoPart {k : Option Int → Ms → Prop} : dNoPart G M k kx = k none M := nr rfl
@[simp] theorem e_dPart {k : Option Int → Ms → Prop} : dPart a G M k kx = a G M (fun x M1 => match x with
  | .int i => k (some i) M1
  | _ => False) kx := nr rfl
@[simp] theorem e_sl_tup {k2 : List D → Ms → DK → Prop} {lo hi : Option Int} {xs : List D} : slD k2 lo hi (.tup xs) M k = k (.tup (cutD xs lo hi)) M := nr rfl
@[simp] theorem e_sl_lst {k2 : List D → Ms → DK → Prop} {lo hi : Option Int} {xs : List D} : slD k2 lo hi (.lst xs) M k = k2 (cutD xs lo hi) M k := nr rfl
@[simp] theorem e_fCatT {xs ys : List D} : fCatT (.tup xs) (.tup ys) M k kx = (xs.length + ys.length ≤ big ∧ k (.tup (xs ++ ys)) M) := nr rfl
@[simp] theorem e_fCat {k2 : List D → Ms → DK → Prop} {xs ys : List D} : fCat k2 (.lst xs) (.lst ys) M k kx = (xs.length + ys.length ≤ big ∧ k2 (xs ++ ys) M k) := nr rfl
@[simp] theorem e_fRep {k2 : List D → Ms → DK → Prop} {xs : List D} : fRep k2 (.lst xs) (.int i) M k kx = ((-(2 ^ 40) ≤ i ∧ i < 2 ^ 40 ∧ xs.length * i.toNat ≤ big) ∧ k2 (repeatD i.toNat xs) M k) := nr rfl
@[simp] theorem e_dRg2 {k2 : List D → Ms → DK → Prop} : dRg2 a b k2 G M k kx = a G M (fun x M1 => b G M1 (fun y M2 => match x, y with
  | .int i, .int j => rgB i j ∧ k2 (rngD i j) M2 k
  | _, _ => False) kx) kx := nr rfl
theorem cut_ints {ns : List Int} {lo hi : Option Int} : cutD (ns.map D.int) lo hi = ((ns.drop (HT.sIx ns.length 0 lo)).take (HT.sIx ns.length ns.length hi - HT.sIx ns.length 0 lo)).map D.int := by
  unfold cutD
  simp
/-! ### two clauses, nothing changes -/
theorem lcE_pure {bd : DBd} {dt : DTT} {de : DTE} {gd : Ms → Prop} {k : List D → Ms → Prop} (p : D → Bool) (f : D → D) {xs acc : List D} (hg : gd M)
    (h : ∀ x ∈ xs, ∃ G', bd x G = some G' ∧ (∀ K : Bool → Ms → Prop, K (p x) M → dt G' M K X0) ∧ (p x = true → plain (f x) = true ∧ ∀ K : DK, K (f x) M → de G' M K X0))
    (hb : acc.length + xs.length ≤ big) (hk : k (acc ++ (xs.filter p).map f) M) : lcE bd dt de gd G xs acc M k := by
  induction xs generalizing acc with
  | nil => exact ⟨hg, by simpa using hk⟩
  | cons x xs ih =>
    refine ⟨hg, ?_⟩
    obtain ⟨G', e1, e2, e3⟩ := h x (List.mem_cons_self ..)
    rw [e1]
    refine e2 _ ?_
    rw [List.length_cons] at hb
    by_cases c : p x = true
    · rw [if_pos c]
      obtain ⟨e4, e5⟩ := e3 c
      refine e5 _ ⟨e4, by omega, ih (fun y hy => h y (List.mem_cons_of_mem _ hy)) (by rw [List.length_append, List.length_singleton]; omega) ?_⟩
      rw [List.filter_cons_of_pos c] at hk
      simpa using hk
    · rw [if_neg c]
      refine ih (fun y hy => h y (List.mem_cons_of_mem _ hy)) (by omega) ?_
      rw [List.filter_cons_of_neg c] at hk
      exact hk
/-! ### errors with fields -/
@[simp] theorem e_dRX {C : Str} {fs : List Str} {dt : DTA} : dRX C fs dt E G M = dt G M (fun ds M1 => ds.length = fs.length ∧ (∀ d ∈ ds, fmtD d) ∧ E.ex ⟨C, fs.reverse, ds.reverse⟩ G M1) (fun x M' => E.ex x G M') := nr rfl
@[simp] theorem e_dTryM {body : DTS} {cs : List Cl} : dTryM body cs E G M = body { E with ex := clsD1 E cs } G M := nr rfl
@[simp] theorem e_cls0 {x : XD} : clsD1 E [] x G M = E.ex x G M := nr rfl
@[simp] theorem e_cls1 {c : Cl} {r : List Cl} {x : XD} : clsD1 E (c :: r) x G M = (match c.t.lookup x.C with
    | some true => ∀ a dd, (match c.io with
      | none => c.su a dd x { E with ex := exNo } G M
      | some i => c.su a dd x ⟨fun G2 => E.nx (G2.set i none), E.rt, fun G2 => E.bk (G2.set i none), fun G2 => E.ct (G2.set i none), exNo⟩ (G.set i (some (.xo a dd x.C x.ns x.ds))) M)
    | some false => clsD1 E r x G M
    | none => False) := nr rfl
@[simp] theorem e_dXF {p : Addr} {dd : Option Addr} {x : XD} {cs : List Str} {f : Str} : dXF p dd x cs f a G M k kx = a G M (fun o M1 => match o with
  | .xo a d2 C ns ds => a = p ∧ d2 = dd ∧ C = x.C ∧ C ∈ cs ∧ (match lookD f ns ds with
    | some d => k d M1
    | none => False)
  | _ => False) kx := nr rfl
@[simp] theorem e_isiX {t : ITab} {p p' : Addr} {dd d2 : Option Addr} {x : XD} {C : Str} {ns : List Str} {ds : List D} {c : D} : cIsiX t p dd x [.xo p' d2 C ns ds, c] M k = (p' = p ∧ d2 = dd ∧ C = x.C ∧ ns = x.ns ∧ (match clsD c with
    | some b => (match findI (.own x.C) b t with
      | some r => k (.bl r) M
      | none => False)
    | none => False)) := nr rfl
@[simp] theorem e_clsD_cls {C : Str} : clsD (.cls C) = some (.own C) := nr rfl
@[simp] theorem e_clsD_ty {n : String} : clsD (.ty n) = some (.ty n) := nr rfl
@[simp] theorem e_lookD_head {f : Str} {ns : List Str} {d : D} {ds : List D} : lookD f (f :: ns) (d :: ds) = some d := by
  unfold lookD
  rw [if_pos rfl]
@[simp] theorem tk2 {x : MO} : List.take M.length (List.take (M.length + 1) (M ++ [x])) = M := by
  rw [List.take_take, Nat.min_eq_left (by omega), List.take_left]
@[simp] theorem str_len {s : String} : (Str.ofString s).length = s.length := PySem.ofString_length s
@[simp] theorem tkS {x : MO} : List.take (M.length + 1) (M ++ [x]) = M ++ [x] := List.take_of_length_le (by simp)
@[simp] theorem lk_hd {β : Type} {C : Str} {x : β} {r : List (Str × β)} : List.lookup C ((C, x) :: r) = some x := by simp [List.lookup_cons]
theorem str_inj0 {a b : String} (h : Str.ofString a = Str.ofString b) : a = b := by
  have h1 : (a.toList.map Char.toNat) = (b.toList.map Char.toNat) := by
    rw [Str.ofString_eq_toList, Str.ofString_eq_toList] at h
    have := congrArg (fun z : Str => z.cps.toList) h
    simpa using this
  have inj : ∀ (x y : List Char), x.map Char.toNat = y.map Char.toNat → x = y := by
    intro x
    induction x with
    | nil =>
      intro y hy
      cases y with
      | nil => rfl
      | cons d y => cases hy
    | cons c x ih =>
      intro y hy
      cases y with
      | nil => cases hy
      | cons d y =>
        rw [List.map_cons, List.map_cons] at hy
        injection hy with h1 h2
        rw [ih y h2]
        congr 1
        exact Char.ext (UInt32.toNat_inj.mp h1)
  exact String.toList_inj.mp (inj _ _ h1)
@[simp] theorem str_inj {a b : String} : (Str.ofString a = Str.ofString b) = (a = b) := propext ⟨str_inj0, fun h => by rw [h]⟩
@[simp] theorem e_isn_ins_non {C : Str} {ns : List Str} {ds : List D} : fIsNot (.ins C ns ds) .non M k kx = k (.bl true) M := by simp [fIsNot, notRaw]
@[simp] theorem e_is_ins_non {C : Str} {ns : List Str} {ds : List D} : fIs (.ins C ns ds) .non M k kx = k (.bl false) M := by simp [fIs, notRaw]
end
end DL

namespace Tk48
open PySem PySem.Spec PyProof.Rows L2 DL
open Classical
abbrev its : List (Str × Str) := []
def itab : ITab := [(.own "Phase", .own "Phase", true), (.ty "NoneType", .own "Phase", false), (.ty "bool", .own "Phase", false), (.ty "int", .own "Phase", false), (.ty "str", .own "Phase", false), (.ty "list", .own "Phase", false), (.ty "tuple", .own "Phase", false), (.own "Phase", .ty "ValueError", false), (.own "Phase", .ty "bool", false), (.own "Phase", .ty "int", false), (.own "Phase", .ty "list", false), (.own "Phase", .ty "str", false), (.own "Phase", .ty "tuple", false)]
@[simp] theorem isi_Phase_Phase {M : Ms} {k : DK} {ns : List Str} {ds : List D} : cIsi itab [.ins "Phase" ns ds, .cls "Phase"] M k = k (.bl true) M := nr rfl
@[simp] theorem isi_non_Phase {M : Ms} {k : DK} : cIsi itab [.non, .cls "Phase"] M k = k (.bl false) M := nr rfl
@[simp] theorem isi_bl_Phase {M : Ms} {k : DK} {b : Bool} : cIsi itab [.bl b, .cls "Phase"] M k = k (.bl false) M := nr rfl
@[simp] theorem isi_int_Phase {M : Ms} {k : DK} {b : Int} : cIsi itab [.int b, .cls "Phase"] M k = k (.bl false) M := nr rfl
@[simp] theorem isi_str_Phase {M : Ms} {k : DK} {b : Str} : cIsi itab [.str b, .cls "Phase"] M k = k (.bl false) M := nr rfl
@[simp] theorem isi_lst_Phase {M : Ms} {k : DK} {b : List D} : cIsi itab [.lst b, .cls "Phase"] M k = k (.bl false) M := nr rfl
@[simp] theorem isi_tup_Phase {M : Ms} {k : DK} {b : List D} : cIsi itab [.tup b, .cls "Phase"] M k = k (.bl false) M := nr rfl
@[simp] theorem isi_Phase_ValueError {M : Ms} {k : DK} {ns : List Str} {ds : List D} : cIsi itab [.ins "Phase" ns ds, .ty "ValueError"] M k = k (.bl false) M := nr rfl
@[simp] theorem isi_Phase_bool {M : Ms} {k : DK} {ns : List Str} {ds : List D} : cIsi itab [.ins "Phase" ns ds, .ty "bool"] M k = k (.bl false) M := nr rfl
@[simp] theorem isi_Phase_int {M : Ms} {k : DK} {ns : List Str} {ds : List D} : cIsi itab [.ins "Phase" ns ds, .ty "int"] M k = k (.bl false) M := nr rfl
@[simp] theorem isi_Phase_list {M : Ms} {k : DK} {ns : List Str} {ds : List D} : cIsi itab [.ins "Phase" ns ds, .ty "list"] M k = k (.bl false) M := nr rfl
@[simp] theorem isi_Phase_str {M : Ms} {k : DK} {ns : List Str} {ds : List D} : cIsi itab [.ins "Phase" ns ds, .ty "str"] M k = k (.bl false) M := nr rfl
@[simp] theorem isi_Phase_tuple {M : Ms} {k : DK} {ns : List Str} {ds : List D} : cIsi itab [.ins "Phase" ns ds, .ty "tuple"] M k = k (.bl false) M := nr rfl
def etab : ITab := [(.own "BadPhase", .own "BadBook", false), (.own "BadPhase", .own "BadLane", false), (.own "BadPhase", .own "BadPhase", true), (.own "BadPhase", .ty "ValueError", true)]
@[simp] theorem et_BadPhase_BadBook : findI (.own "BadPhase") (.own "BadBook") etab = some false := by first | rfl | decide +kernel
@[simp] theorem et_BadPhase_BadLane : findI (.own "BadPhase") (.own "BadLane") etab = some false := by first | rfl | decide +kernel
@[simp] theorem et_BadPhase_BadPhase : findI (.own "BadPhase") (.own "BadPhase") etab = some true := by first | rfl | decide +kernel
@[simp] theorem et_BadPhase_ValueError : findI (.own "BadPhase") (.ty "ValueError") etab = some true := by first | rfl | decide +kernel
def tt_LightsError : List (Str × Bool) := [("BadPhase", true)]
@[simp] theorem tt_LightsError_BadPhase : tt_LightsError.lookup ("BadPhase" : Str) = some true := by first | rfl | decide +kernel
def tt_BadPhase : List (Str × Bool) := [("BadPhase", true)]
@[simp] theorem tt_BadPhase_BadPhase : tt_BadPhase.lookup ("BadPhase" : Str) = some true := by first | rfl | decide +kernel
abbrev fl_Phase : List Str := ["green", "least", "most", "pause", "holds", "calls", "yields"]
@[simp] theorem pt_Phase_green {x0 : D} : putD "green" x0 [] = [(("green" : Str), x0)] := by
  rfl
@[simp] theorem lk_Phase_least {x0 x1 x2 x3 x4 x5 x6 : D} : lookD "least" ["green", "least", "most", "pause", "holds", "calls", "yields"] [x0, x1, x2, x3, x4, x5, x6] = some x1 := by
  unfold lookD
  rw [if_neg (by decide +kernel)]
  unfold lookD
  exact if_pos rfl
@[simp] theorem pt_Phase_least {x0 x1 : D} : putD "least" x1 [(("green" : Str), x0)] = [(("green" : Str), x0), (("least" : Str), x1)] := by
  unfold putD
  rw [if_neg (by decide +kernel)]
  rfl
@[simp] theorem lk_Phase_most {x0 x1 x2 x3 x4 x5 x6 : D} : lookD "most" ["green", "least", "most", "pause", "holds", "calls", "yields"] [x0, x1, x2, x3, x4, x5, x6] = some x2 := by
  unfold lookD
  rw [if_neg (by decide +kernel)]
  unfold lookD
  rw [if_neg (by decide +kernel)]
  unfold lookD
  exact if_pos rfl
@[simp] theorem pt_Phase_most {x0 x1 x2 : D} : putD "most" x2 [(("green" : Str), x0), (("least" : Str), x1)] = [(("green" : Str), x0), (("least" : Str), x1), (("most" : Str), x2)] := by
  unfold putD
  rw [if_neg (by decide +kernel)]
  unfold putD
  rw [if_neg (by decide +kernel)]
  rfl
@[simp] theorem lk_Phase_pause {x0 x1 x2 x3 x4 x5 x6 : D} : lookD "pause" ["green", "least", "most", "pause", "holds", "calls", "yields"] [x0, x1, x2, x3, x4, x5, x6] = some x3 := by
  unfold lookD
  rw [if_neg (by decide +kernel)]
  unfold lookD
  rw [if_neg (by decide +kernel)]
  unfold lookD
  rw [if_neg (by decide +kernel)]
  unfold lookD
  exact if_pos rfl
@[simp] theorem pt_Phase_pause {x0 x1 x2 x3 : D} : putD "pause" x3 [(("green" : Str), x0), (("least" : Str), x1), (("most" : Str), x2)] = [(("green" : Str), x0), (("least" : Str), x1), (("most" : Str), x2), (("pause" : Str), x3)] := by
  unfold putD
  rw [if_neg (by decide +kernel)]
  unfold putD
  rw [if_neg (by decide +kernel)]
  unfold putD
  rw [if_neg (by decide +kernel)]
  rfl
@[simp] theorem lk_Phase_holds {x0 x1 x2 x3 x4 x5 x6 : D} : lookD "holds" ["green", "least", "most", "pause", "holds", "calls", "yields"] [x0, x1, x2, x3, x4, x5, x6] = some x4 := by
  unfold lookD
  rw [if_neg (by decide +kernel)]
  unfold lookD
  rw [if_neg (by decide +kernel)]
  unfold lookD
  rw [if_neg (by decide +kernel)]
  unfold lookD
  rw [if_neg (by decide +kernel)]
  unfold lookD
  exact if_pos rfl
@[simp] theorem pt_Phase_holds {x0 x1 x2 x3 x4 : D} : putD "holds" x4 [(("green" : Str), x0), (("least" : Str), x1), (("most" : Str), x2), (("pause" : Str), x3)] = [(("green" : Str), x0), (("least" : Str), x1), (("most" : Str), x2), (("pause" : Str), x3), (("holds" : Str), x4)] := by
  unfold putD
  rw [if_neg (by decide +kernel)]
  unfold putD
  rw [if_neg (by decide +kernel)]
  unfold putD
  rw [if_neg (by decide +kernel)]
  unfold putD
  rw [if_neg (by decide +kernel)]
  rfl
@[simp] theorem lk_Phase_calls {x0 x1 x2 x3 x4 x5 x6 : D} : lookD "calls" ["green", "least", "most", "pause", "holds", "calls", "yields"] [x0, x1, x2, x3, x4, x5, x6] = some x5 := by
  unfold lookD
  rw [if_neg (by decide +kernel)]
  unfold lookD
  rw [if_neg (by decide +kernel)]
  unfold lookD
  rw [if_neg (by decide +kernel)]
  unfold lookD
  rw [if_neg (by decide +kernel)]
  unfold lookD
  rw [if_neg (by decide +kernel)]
  unfold lookD
  exact if_pos rfl
@[simp] theorem pt_Phase_calls {x0 x1 x2 x3 x4 x5 : D} : putD "calls" x5 [(("green" : Str), x0), (("least" : Str), x1), (("most" : Str), x2), (("pause" : Str), x3), (("holds" : Str), x4)] = [(("green" : Str), x0), (("least" : Str), x1), (("most" : Str), x2), (("pause" : Str), x3), (("holds" : Str), x4), (("calls" : Str), x5)] := by
  unfold putD
  rw [if_neg (by decide +kernel)]
  unfold putD
  rw [if_neg (by decide +kernel)]
  unfold putD
  rw [if_neg (by decide +kernel)]
  unfold putD
  rw [if_neg (by decide +kernel)]
  unfold putD
  rw [if_neg (by decide +kernel)]
  rfl
@[simp] theorem lk_Phase_yields {x0 x1 x2 x3 x4 x5 x6 : D} : lookD "yields" ["green", "least", "most", "pause", "holds", "calls", "yields"] [x0, x1, x2, x3, x4, x5, x6] = some x6 := by
  unfold lookD
  rw [if_neg (by decide +kernel)]
  unfold lookD
  rw [if_neg (by decide +kernel)]
  unfold lookD
  rw [if_neg (by decide +kernel)]
  unfold lookD
  rw [if_neg (by decide +kernel)]
  unfold lookD
  rw [if_neg (by decide +kernel)]
  unfold lookD
  rw [if_neg (by decide +kernel)]
  unfold lookD
  exact if_pos rfl
@[simp] theorem pt_Phase_yields {x0 x1 x2 x3 x4 x5 x6 : D} : putD "yields" x6 [(("green" : Str), x0), (("least" : Str), x1), (("most" : Str), x2), (("pause" : Str), x3), (("holds" : Str), x4), (("calls" : Str), x5)] = [(("green" : Str), x0), (("least" : Str), x1), (("most" : Str), x2), (("pause" : Str), x3), (("holds" : Str), x4), (("calls" : Str), x5), (("yields" : Str), x6)] := by
  unfold putD
  rw [if_neg (by decide +kernel)]
  unfold putD
  rw [if_neg (by decide +kernel)]
  unfold putD
  rw [if_neg (by decide +kernel)]
  unfold putD
  rw [if_neg (by decide +kernel)]
  unfold putD
  rw [if_neg (by decide +kernel)]
  unfold putD
  rw [if_neg (by decide +kernel)]
  rfl
@[simp] theorem nm_Phase___eq__ : (("__eq__" : Str) ∈ (["green", "least", "most", "pause", "holds", "calls", "yields"] : List Str)) = False := eq_false (by decide +kernel)
/-! _law_cell -/
abbrev N__law_cell : List Str := ["script", "k"]
theorem ex_bd__law_cell_1 : ∃ x : DTS, x =
  (dRet (dC (.int 0))) := ⟨_, rfl⟩
noncomputable def Bd__law_cell_1 : DTS := Classical.choose ex_bd__law_cell_1
@[simp] theorem bd__law_cell_1 : Bd__law_cell_1 =
  (dRet (dC (.int 0))) := Classical.choose_spec ex_bd__law_cell_1
theorem ex_bd__law_cell : ∃ x : DTS, x =
  (dSeq (dIf (dB (dBin fLt (dVar 1) (dCB cLen (dCons (dVar 0) dNil)))) (dRet (dCB cAbs (dCons (dBin fIx (dVar 0) (dVar 1)) dNil))) dNext)
  Bd__law_cell_1) := ⟨_, rfl⟩
noncomputable def Bd__law_cell : DTS := Classical.choose ex_bd__law_cell
theorem bd__law_cell : Bd__law_cell =
  (dSeq (dIf (dB (dBin fLt (dVar 1) (dCB cLen (dCons (dVar 0) dNil)))) (dRet (dCB cAbs (dCons (dBin fIx (dVar 0) (dVar 1)) dNil))) dNext)
  Bd__law_cell_1) := Classical.choose_spec ex_bd__law_cell
noncomputable def dn__law_cell : DSp := dFn 2 2 Bd__law_cell
/-! _law_hand -/
abbrev N__law_hand : List Str := ["script", "k", "cell"]
theorem ex_bd__law_hand_1 : ∃ x : DTS, x =
  (dRet (dLstM (dCons (dVar 2) (dCons (dCB cInt (dCons (dBin fGe (dVar 2) (dBin fPow (dC (.int 10)) (dC (.int 18)))) dNil)) (dCons (dC (.int 0)) (dCons (dBin fAdd (dBin fMod (dCB cInt (dCons (dVar 2) dNil)) (dC (.int 2147483629))) (dBin fMul (dC (.int 7)) (dVar 1))) dNil)))))) := ⟨_, rfl⟩
noncomputable def Bd__law_hand_1 : DTS := Classical.choose ex_bd__law_hand_1
@[simp] theorem bd__law_hand_1 : Bd__law_hand_1 =
  (dRet (dLstM (dCons (dVar 2) (dCons (dCB cInt (dCons (dBin fGe (dVar 2) (dBin fPow (dC (.int 10)) (dC (.int 18)))) dNil)) (dCons (dC (.int 0)) (dCons (dBin fAdd (dBin fMod (dCB cInt (dCons (dVar 2) dNil)) (dC (.int 2147483629))) (dBin fMul (dC (.int 7)) (dVar 1))) dNil)))))) := Classical.choose_spec ex_bd__law_hand_1
theorem ex_bd__law_hand : ∃ x : DTS, x =
  (dSeq (dAsg 2 (dCall 2 [] dn__law_cell (dCons (dVar 0) (dCons (dVar 1) dNil))))
  Bd__law_hand_1) := ⟨_, rfl⟩
noncomputable def Bd__law_hand : DTS := Classical.choose ex_bd__law_hand
theorem bd__law_hand : Bd__law_hand =
  (dSeq (dAsg 2 (dCall 2 [] dn__law_cell (dCons (dVar 0) (dCons (dVar 1) dNil))))
  Bd__law_hand_1) := Classical.choose_spec ex_bd__law_hand
noncomputable def dn__law_hand : DSp := dFnC 2 3 Bd__law_hand
noncomputable def dnF__law_hand : DSp := dFn 2 3 Bd__law_hand
/-! _law_take -/
abbrev N__law_take : List Str := ["hand", "many", "digit", "mixed"]
theorem ex_bd__law_take_5 : ∃ x : DTS, x =
  (dRet (dBin fMod (dCB cInt (dCons (dBin fDiv (dVar 3) (dC (.int 11))) dNil)) (dVar 1))) := ⟨_, rfl⟩
noncomputable def Bd__law_take_5 : DTS := Classical.choose ex_bd__law_take_5
@[simp] theorem bd__law_take_5 : Bd__law_take_5 =
  (dRet (dBin fMod (dCB cInt (dCons (dBin fDiv (dVar 3) (dC (.int 11))) dNil)) (dVar 1))) := Classical.choose_spec ex_bd__law_take_5
theorem ex_bd__law_take_4 : ∃ x : DTS, x =
  (dSeq (dAsg 3 (dBin fMod (dCB cInt (dCons (dBin fAdd (dBin fMul (dVar 3) (dVar 3)) (dBin fDiv (dVar 3) (dC (.int 97)))) dNil)) (dC (.int 2147483629))))
  Bd__law_take_5) := ⟨_, rfl⟩
noncomputable def Bd__law_take_4 : DTS := Classical.choose ex_bd__law_take_4
@[simp] theorem bd__law_take_4 : Bd__law_take_4 =
  (dSeq (dAsg 3 (dBin fMod (dCB cInt (dCons (dBin fAdd (dBin fMul (dVar 3) (dVar 3)) (dBin fDiv (dVar 3) (dC (.int 97)))) dNil)) (dC (.int 2147483629))))
  Bd__law_take_5) := Classical.choose_spec ex_bd__law_take_4
theorem ex_bd__law_take_3 : ∃ x : DTS, x =
  (dSeq (dAsg 3 (dBin fMod (dCB cInt (dCons (dBin fAdd (dBin fAdd (dBin fMul (dVar 3) (dVar 3)) (dBin fMul (dBin fIx (dVar 0) (dC (.int 2))) (dC (.int 3571)))) (dC (.int 40692))) dNil)) (dC (.int 2147483399))))
  Bd__law_take_4) := ⟨_, rfl⟩
noncomputable def Bd__law_take_3 : DTS := Classical.choose ex_bd__law_take_3
@[simp] theorem bd__law_take_3 : Bd__law_take_3 =
  (dSeq (dAsg 3 (dBin fMod (dCB cInt (dCons (dBin fAdd (dBin fAdd (dBin fMul (dVar 3) (dVar 3)) (dBin fMul (dBin fIx (dVar 0) (dC (.int 2))) (dC (.int 3571)))) (dC (.int 40692))) dNil)) (dC (.int 2147483399))))
  Bd__law_take_4) := Classical.choose_spec ex_bd__law_take_3
theorem ex_bd__law_take_2 : ∃ x : DTS, x =
  (dSeq (dAsg 3 (dBin fMod (dCB cInt (dCons (dBin fAdd (dBin fAdd (dBin fMul (dBin fIx (dVar 0) (dC (.int 3))) (dC (.int 48271))) (dBin fMul (dBin fIx (dVar 0) (dC (.int 2))) (dC (.int 69621)))) (dC (.int 12289))) dNil)) (dC (.int 2147483647))))
  Bd__law_take_3) := ⟨_, rfl⟩
noncomputable def Bd__law_take_2 : DTS := Classical.choose ex_bd__law_take_2
@[simp] theorem bd__law_take_2 : Bd__law_take_2 =
  (dSeq (dAsg 3 (dBin fMod (dCB cInt (dCons (dBin fAdd (dBin fAdd (dBin fMul (dBin fIx (dVar 0) (dC (.int 3))) (dC (.int 48271))) (dBin fMul (dBin fIx (dVar 0) (dC (.int 2))) (dC (.int 69621)))) (dC (.int 12289))) dNil)) (dC (.int 2147483647))))
  Bd__law_take_3) := Classical.choose_spec ex_bd__law_take_2
theorem ex_bd__law_take_1 : ∃ x : DTS, x =
  (dSeq (dSub (dVar 0) (dC (.int 2)) (dBin fAdd (dBin fIx (dVar 0) (dC (.int 2))) (dC (.int 1))))
  Bd__law_take_2) := ⟨_, rfl⟩
noncomputable def Bd__law_take_1 : DTS := Classical.choose ex_bd__law_take_1
@[simp] theorem bd__law_take_1 : Bd__law_take_1 =
  (dSeq (dSub (dVar 0) (dC (.int 2)) (dBin fAdd (dBin fIx (dVar 0) (dC (.int 2))) (dC (.int 1))))
  Bd__law_take_2) := Classical.choose_spec ex_bd__law_take_1
theorem ex_bd__law_take : ∃ x : DTS, x =
  (dSeq (dIf (dAnd (dB (dBin fEqS (dBin fIx (dVar 0) (dC (.int 1))) (dC (.int 1)))) (dB (dBin fGt (dBin fIx (dVar 0) (dC (.int 0))) (dC (.int 0))))) (dSeq (dAsg 2 (dBin fMod (dCB cInt (dCons (dBin fIx (dVar 0) (dC (.int 0))) dNil)) (dVar 1)))
  (dSeq (dSub (dVar 0) (dC (.int 0)) (dBin fDiv (dBin fIx (dVar 0) (dC (.int 0))) (dVar 1)))
  (dRet (dVar 2)))) dNext)
  Bd__law_take_1) := ⟨_, rfl⟩
noncomputable def Bd__law_take : DTS := Classical.choose ex_bd__law_take
theorem bd__law_take : Bd__law_take =
  (dSeq (dIf (dAnd (dB (dBin fEqS (dBin fIx (dVar 0) (dC (.int 1))) (dC (.int 1)))) (dB (dBin fGt (dBin fIx (dVar 0) (dC (.int 0))) (dC (.int 0))))) (dSeq (dAsg 2 (dBin fMod (dCB cInt (dCons (dBin fIx (dVar 0) (dC (.int 0))) dNil)) (dVar 1)))
  (dSeq (dSub (dVar 0) (dC (.int 0)) (dBin fDiv (dBin fIx (dVar 0) (dC (.int 0))) (dVar 1)))
  (dRet (dVar 2)))) dNext)
  Bd__law_take_1) := Classical.choose_spec ex_bd__law_take
noncomputable def dn__law_take : DSp := dFn 2 4 Bd__law_take
/-! _law_number -/
abbrev N__law_number : List Str := ["hand", "free", "low", "high"]
theorem ex_bd__law_number_2 : ∃ x : DTS, x =
  (dRet (dBin fSub (dCall 2 [] dn__law_take (dCons (dVar 0) (dCons (dC (.int 17)) dNil))) (dC (.int 2)))) := ⟨_, rfl⟩
noncomputable def Bd__law_number_2 : DTS := Classical.choose ex_bd__law_number_2
@[simp] theorem bd__law_number_2 : Bd__law_number_2 =
  (dRet (dBin fSub (dCall 2 [] dn__law_take (dCons (dVar 0) (dCons (dC (.int 17)) dNil))) (dC (.int 2)))) := Classical.choose_spec ex_bd__law_number_2
theorem ex_bd__law_number_1 : ∃ x : DTS, x =
  (dSeq (dIf (dB (dBin fEqS (dCall 2 [] dn__law_take (dCons (dVar 0) (dCons (dC (.int 6)) dNil))) (dC (.int 0)))) (dRet (dBin fSub (dCall 2 [] dn__law_take (dCons (dVar 0) (dCons (dBin fAdd (dBin fMul (dC (.int 2)) (dBin fPow (dC (.int 10)) (dC (.int 9)))) (dC (.int 1))) dNil))) (dBin fPow (dC (.int 10)) (dC (.int 9))))) dNext)
  Bd__law_number_2) := ⟨_, rfl⟩
noncomputable def Bd__law_number_1 : DTS := Classical.choose ex_bd__law_number_1
@[simp] theorem bd__law_number_1 : Bd__law_number_1 =
  (dSeq (dIf (dB (dBin fEqS (dCall 2 [] dn__law_take (dCons (dVar 0) (dCons (dC (.int 6)) dNil))) (dC (.int 0)))) (dRet (dBin fSub (dCall 2 [] dn__law_take (dCons (dVar 0) (dCons (dBin fAdd (dBin fMul (dC (.int 2)) (dBin fPow (dC (.int 10)) (dC (.int 9)))) (dC (.int 1))) dNil))) (dBin fPow (dC (.int 10)) (dC (.int 9))))) dNext)
  Bd__law_number_2) := Classical.choose_spec ex_bd__law_number_1
theorem ex_bd__law_number : ∃ x : DTS, x =
  (dSeq (dIf (dNot (dTr (dVar 1))) (dRet (dBin fAdd (dVar 2) (dCall 2 [] dn__law_take (dCons (dVar 0) (dCons (dBin fAdd (dBin fSub (dVar 3) (dVar 2)) (dC (.int 1))) dNil))))) dNext)
  Bd__law_number_1) := ⟨_, rfl⟩
noncomputable def Bd__law_number : DTS := Classical.choose ex_bd__law_number
theorem bd__law_number : Bd__law_number =
  (dSeq (dIf (dNot (dTr (dVar 1))) (dRet (dBin fAdd (dVar 2) (dCall 2 [] dn__law_take (dCons (dVar 0) (dCons (dBin fAdd (dBin fSub (dVar 3) (dVar 2)) (dC (.int 1))) dNil))))) dNext)
  Bd__law_number_1) := Classical.choose_spec ex_bd__law_number
noncomputable def dn__law_number : DSp := dFn 4 4 Bd__law_number
/-! _law_streams -/
abbrev N__law_streams : List Str := ["hand", "free", "way", "k", "row", "x", "far", "twice"]
theorem ex_bd__law_streams_6 : ∃ x : DTS, x =
  (dRet (dVar 4)) := ⟨_, rfl⟩
noncomputable def Bd__law_streams_6 : DTS := Classical.choose ex_bd__law_streams_6
@[simp] theorem bd__law_streams_6 : Bd__law_streams_6 =
  (dRet (dVar 4)) := Classical.choose_spec ex_bd__law_streams_6
theorem ex_bd__law_streams_5 : ∃ x : DTS, x =
  (dSeq (dIf (dAnd (dTr (dVar 1)) (dAnd (dB (dBin fEqS (dVar 2) (dC (.int 2)))) (dB (dBin fGt (dCB cLen (dCons (dVar 4) dNil)) (dC (.int 0)))))) (dSeq (dAsg 7 (dBin fIx (dVar 4) (dCall 2 [] dn__law_take (dCons (dVar 0) (dCons (dCB cLen (dCons (dVar 4) dNil)) dNil)))))
  (dExp (dInsert (dVar 4) (dCall 2 [] dn__law_take (dCons (dVar 0) (dCons (dBin fAdd (dCB cLen (dCons (dVar 4) dNil)) (dC (.int 1))) dNil))) (dVar 7)))) dNext)
  Bd__law_streams_6) := ⟨_, rfl⟩
noncomputable def Bd__law_streams_5 : DTS := Classical.choose ex_bd__law_streams_5
@[simp] theorem bd__law_streams_5 : Bd__law_streams_5 =
  (dSeq (dIf (dAnd (dTr (dVar 1)) (dAnd (dB (dBin fEqS (dVar 2) (dC (.int 2)))) (dB (dBin fGt (dCB cLen (dCons (dVar 4) dNil)) (dC (.int 0)))))) (dSeq (dAsg 7 (dBin fIx (dVar 4) (dCall 2 [] dn__law_take (dCons (dVar 0) (dCons (dCB cLen (dCons (dVar 4) dNil)) dNil)))))
  (dExp (dInsert (dVar 4) (dCall 2 [] dn__law_take (dCons (dVar 0) (dCons (dBin fAdd (dCB cLen (dCons (dVar 4) dNil)) (dC (.int 1))) dNil))) (dVar 7)))) dNext)
  Bd__law_streams_6) := Classical.choose_spec ex_bd__law_streams_5
theorem ex_bd__law_streams_4 : ∃ x : DTS, x =
  (dSeq (dIf (dAnd (dTr (dVar 1)) (dB (dBin fEqS (dVar 2) (dC (.int 1))))) (dSeq (dAsg 6 (dBin fIx (dLst (dCons (dC (.int 6)) (dCons (dUn fNeg (dC (.int 1))) (dCons (dBin fPow (dC (.int 10)) (dC (.int 9))) (dCons (dUn fNeg (dBin fPow (dC (.int 10)) (dC (.int 9)))) dNil))))) (dCall 2 [] dn__law_take (dCons (dVar 0) (dCons (dC (.int 4)) dNil)))))
  (dExp (dInsert (dVar 4) (dCall 2 [] dn__law_take (dCons (dVar 0) (dCons (dBin fAdd (dCB cLen (dCons (dVar 4) dNil)) (dC (.int 1))) dNil))) (dVar 6)))) dNext)
  Bd__law_streams_5) := ⟨_, rfl⟩
noncomputable def Bd__law_streams_4 : DTS := Classical.choose ex_bd__law_streams_4
@[simp] theorem bd__law_streams_4 : Bd__law_streams_4 =
  (dSeq (dIf (dAnd (dTr (dVar 1)) (dB (dBin fEqS (dVar 2) (dC (.int 1))))) (dSeq (dAsg 6 (dBin fIx (dLst (dCons (dC (.int 6)) (dCons (dUn fNeg (dC (.int 1))) (dCons (dBin fPow (dC (.int 10)) (dC (.int 9))) (dCons (dUn fNeg (dBin fPow (dC (.int 10)) (dC (.int 9)))) dNil))))) (dCall 2 [] dn__law_take (dCons (dVar 0) (dCons (dC (.int 4)) dNil)))))
  (dExp (dInsert (dVar 4) (dCall 2 [] dn__law_take (dCons (dVar 0) (dCons (dBin fAdd (dCB cLen (dCons (dVar 4) dNil)) (dC (.int 1))) dNil))) (dVar 6)))) dNext)
  Bd__law_streams_5) := Classical.choose_spec ex_bd__law_streams_4
theorem ex_bd__law_streams_3 : ∃ x : DTS, x =
  (dSeq (dFor (iRng1 (dCall 2 [] dn__law_take (dCons (dVar 0) (dCons (dC (.int 7)) dNil)))) (bName 3) (dSeq (dAsg 5 (dCall 2 [] dn__law_take (dCons (dVar 0) (dCons (dC (.int 6)) dNil))))
  (dIf (dB (dBin (fIn true) (dVar 5) (dVar 4))) (dExp (dApp (dVar 4) (dVar 5))) dNext)))
  Bd__law_streams_4) := ⟨_, rfl⟩
noncomputable def Bd__law_streams_3 : DTS := Classical.choose ex_bd__law_streams_3
@[simp] theorem bd__law_streams_3 : Bd__law_streams_3 =
  (dSeq (dFor (iRng1 (dCall 2 [] dn__law_take (dCons (dVar 0) (dCons (dC (.int 7)) dNil)))) (bName 3) (dSeq (dAsg 5 (dCall 2 [] dn__law_take (dCons (dVar 0) (dCons (dC (.int 6)) dNil))))
  (dIf (dB (dBin (fIn true) (dVar 5) (dVar 4))) (dExp (dApp (dVar 4) (dVar 5))) dNext)))
  Bd__law_streams_4) := Classical.choose_spec ex_bd__law_streams_3
theorem ex_bd__law_streams_2 : ∃ x : DTS, x =
  (dSeq (dAsg 4 (dLstM dNil))
  Bd__law_streams_3) := ⟨_, rfl⟩
noncomputable def Bd__law_streams_2 : DTS := Classical.choose ex_bd__law_streams_2
@[simp] theorem bd__law_streams_2 : Bd__law_streams_2 =
  (dSeq (dAsg 4 (dLstM dNil))
  Bd__law_streams_3) := Classical.choose_spec ex_bd__law_streams_2
theorem ex_bd__law_streams_1 : ∃ x : DTS, x =
  (dSeq (dIf (dAnd (dTr (dVar 1)) (dB (dBin fEqS (dVar 2) (dC (.int 0))))) (dRet (dLc (iRng1 (dCall 2 [] dn__law_take (dCons (dVar 0) (dCons (dC (.int 9)) dNil)))) (bName 3) dYes (dBin fSub (dCall 2 [] dn__law_take (dCons (dVar 0) (dCons (dC (.int 11)) dNil))) (dC (.int 2))) [3] toLst)) dNext)
  Bd__law_streams_2) := ⟨_, rfl⟩
noncomputable def Bd__law_streams_1 : DTS := Classical.choose ex_bd__law_streams_1
@[simp] theorem bd__law_streams_1 : Bd__law_streams_1 =
  (dSeq (dIf (dAnd (dTr (dVar 1)) (dB (dBin fEqS (dVar 2) (dC (.int 0))))) (dRet (dLc (iRng1 (dCall 2 [] dn__law_take (dCons (dVar 0) (dCons (dC (.int 9)) dNil)))) (bName 3) dYes (dBin fSub (dCall 2 [] dn__law_take (dCons (dVar 0) (dCons (dC (.int 11)) dNil))) (dC (.int 2))) [3] toLst)) dNext)
  Bd__law_streams_2) := Classical.choose_spec ex_bd__law_streams_1
theorem ex_bd__law_streams : ∃ x : DTS, x =
  (dSeq (dAsg 2 (dCall 2 [] dn__law_take (dCons (dVar 0) (dCons (dC (.int 3)) dNil))))
  Bd__law_streams_1) := ⟨_, rfl⟩
noncomputable def Bd__law_streams : DTS := Classical.choose ex_bd__law_streams
theorem bd__law_streams : Bd__law_streams =
  (dSeq (dAsg 2 (dCall 2 [] dn__law_take (dCons (dVar 0) (dCons (dC (.int 3)) dNil))))
  Bd__law_streams_1) := Classical.choose_spec ex_bd__law_streams
noncomputable def dn__law_streams : DSp := dFn 2 8 Bd__law_streams
/-! _law_args -/
abbrev N__law_args : List Str := ["script", "hand", "mood", "spot", "free", "k", "lower", "upper", "calm", "gives", "green", "grips", "pushes"]
theorem ex_bd__law_args_12 : ∃ x : DTS, x =
  (dRet (dLst (dCons (dVar 10) (dCons (dVar 6) (dCons (dVar 7) (dCons (dVar 8) (dCons (dVar 11) (dCons (dVar 12) (dCons (dVar 9) dNil))))))))) := ⟨_, rfl⟩
noncomputable def Bd__law_args_12 : DTS := Classical.choose ex_bd__law_args_12
@[simp] theorem bd__law_args_12 : Bd__law_args_12 =
  (dRet (dLst (dCons (dVar 10) (dCons (dVar 6) (dCons (dVar 7) (dCons (dVar 8) (dCons (dVar 11) (dCons (dVar 12) (dCons (dVar 9) dNil))))))))) := Classical.choose_spec ex_bd__law_args_12
theorem ex_bd__law_args_11 : ∃ x : DTS, x =
  (dSeq (dAsg 12 (dCall 2 [] dn__law_streams (dCons (dCall 2 [] dn__law_hand (dCons (dVar 0) (dCons (dC (.int 3)) dNil))) (dCons (dBin fIx (dVar 4) (dC (.int 5))) dNil))))
  Bd__law_args_12) := ⟨_, rfl⟩
noncomputable def Bd__law_args_11 : DTS := Classical.choose ex_bd__law_args_11
@[simp] theorem bd__law_args_11 : Bd__law_args_11 =
  (dSeq (dAsg 12 (dCall 2 [] dn__law_streams (dCons (dCall 2 [] dn__law_hand (dCons (dVar 0) (dCons (dC (.int 3)) dNil))) (dCons (dBin fIx (dVar 4) (dC (.int 5))) dNil))))
  Bd__law_args_12) := Classical.choose_spec ex_bd__law_args_11
theorem ex_bd__law_args_10 : ∃ x : DTS, x =
  (dSeq (dAsg 11 (dCall 2 [] dn__law_streams (dCons (dCall 2 [] dn__law_hand (dCons (dVar 0) (dCons (dC (.int 2)) dNil))) (dCons (dBin fIx (dVar 4) (dC (.int 4))) dNil))))
  Bd__law_args_11) := ⟨_, rfl⟩
noncomputable def Bd__law_args_10 : DTS := Classical.choose ex_bd__law_args_10
@[simp] theorem bd__law_args_10 : Bd__law_args_10 =
  (dSeq (dAsg 11 (dCall 2 [] dn__law_streams (dCons (dCall 2 [] dn__law_hand (dCons (dVar 0) (dCons (dC (.int 2)) dNil))) (dCons (dBin fIx (dVar 4) (dC (.int 4))) dNil))))
  Bd__law_args_11) := Classical.choose_spec ex_bd__law_args_10
theorem ex_bd__law_args_9 : ∃ x : DTS, x =
  (dSeq (dAsg 10 (dCall 2 [] dn__law_streams (dCons (dCall 2 [] dn__law_hand (dCons (dVar 0) (dCons (dC (.int 1)) dNil))) (dCons (dBin fIx (dVar 4) (dC (.int 0))) dNil))))
  Bd__law_args_10) := ⟨_, rfl⟩
noncomputable def Bd__law_args_9 : DTS := Classical.choose ex_bd__law_args_9
@[simp] theorem bd__law_args_9 : Bd__law_args_9 =
  (dSeq (dAsg 10 (dCall 2 [] dn__law_streams (dCons (dCall 2 [] dn__law_hand (dCons (dVar 0) (dCons (dC (.int 1)) dNil))) (dCons (dBin fIx (dVar 4) (dC (.int 0))) dNil))))
  Bd__law_args_10) := Classical.choose_spec ex_bd__law_args_9
theorem ex_bd__law_args_8 : ∃ x : DTS, x =
  (dSeq (dAsg 9 (dBin fEqS (dCall 2 [] dn__law_take (dCons (dVar 1) (dCons (dC (.int 2)) dNil))) (dC (.int 1))))
  Bd__law_args_9) := ⟨_, rfl⟩
noncomputable def Bd__law_args_8 : DTS := Classical.choose ex_bd__law_args_8
@[simp] theorem bd__law_args_8 : Bd__law_args_8 =
  (dSeq (dAsg 9 (dBin fEqS (dCall 2 [] dn__law_take (dCons (dVar 1) (dCons (dC (.int 2)) dNil))) (dC (.int 1))))
  Bd__law_args_9) := Classical.choose_spec ex_bd__law_args_8
theorem ex_bd__law_args_7 : ∃ x : DTS, x =
  (dSeq (dAsg 8 (dCall 4 [] dn__law_number (dCons (dVar 1) (dCons (dBin fIx (dVar 4) (dC (.int 3))) (dCons (dC (.int 0)) (dCons (dC (.int 9)) dNil))))))
  Bd__law_args_8) := ⟨_, rfl⟩
noncomputable def Bd__law_args_7 : DTS := Classical.choose ex_bd__law_args_7
@[simp] theorem bd__law_args_7 : Bd__law_args_7 =
  (dSeq (dAsg 8 (dCall 4 [] dn__law_number (dCons (dVar 1) (dCons (dBin fIx (dVar 4) (dC (.int 3))) (dCons (dC (.int 0)) (dCons (dC (.int 9)) dNil))))))
  Bd__law_args_8) := Classical.choose_spec ex_bd__law_args_7
theorem ex_bd__law_args_6 : ∃ x : DTS, x =
  (dSeq (dIf (dB (dBin fGt (dCall 2 [] dn__law_take (dCons (dVar 1) (dCons (dC (.int 3)) dNil))) (dC (.int 0)))) (dAsg 7 (dCall 4 [] dn__law_number (dCons (dVar 1) (dCons (dBin fIx (dVar 4) (dC (.int 2))) (dCons (dCB cMax2 (dCons (dC (.int 1)) (dCons (dCB cMin2 (dCons (dC (.int 12)) (dCons (dVar 6) dNil))) dNil))) (dCons (dC (.int 12)) dNil)))))) dNext)
  Bd__law_args_7) := ⟨_, rfl⟩
noncomputable def Bd__law_args_6 : DTS := Classical.choose ex_bd__law_args_6
@[simp] theorem bd__law_args_6 : Bd__law_args_6 =
  (dSeq (dIf (dB (dBin fGt (dCall 2 [] dn__law_take (dCons (dVar 1) (dCons (dC (.int 3)) dNil))) (dC (.int 0)))) (dAsg 7 (dCall 4 [] dn__law_number (dCons (dVar 1) (dCons (dBin fIx (dVar 4) (dC (.int 2))) (dCons (dCB cMax2 (dCons (dC (.int 1)) (dCons (dCB cMin2 (dCons (dC (.int 12)) (dCons (dVar 6) dNil))) dNil))) (dCons (dC (.int 12)) dNil)))))) dNext)
  Bd__law_args_7) := Classical.choose_spec ex_bd__law_args_6
theorem ex_bd__law_args_5 : ∃ x : DTS, x =
  (dSeq (dAsg 7 (dC .non))
  Bd__law_args_6) := ⟨_, rfl⟩
noncomputable def Bd__law_args_5 : DTS := Classical.choose ex_bd__law_args_5
@[simp] theorem bd__law_args_5 : Bd__law_args_5 =
  (dSeq (dAsg 7 (dC .non))
  Bd__law_args_6) := Classical.choose_spec ex_bd__law_args_5
theorem ex_bd__law_args_4 : ∃ x : DTS, x =
  (dSeq (dAsg 6 (dCall 4 [] dn__law_number (dCons (dVar 1) (dCons (dBin fIx (dVar 4) (dC (.int 1))) (dCons (dC (.int 1)) (dCons (dC (.int 12)) dNil))))))
  Bd__law_args_5) := ⟨_, rfl⟩
noncomputable def Bd__law_args_4 : DTS := Classical.choose ex_bd__law_args_4
@[simp] theorem bd__law_args_4 : Bd__law_args_4 =
  (dSeq (dAsg 6 (dCall 4 [] dn__law_number (dCons (dVar 1) (dCons (dBin fIx (dVar 4) (dC (.int 1))) (dCons (dC (.int 1)) (dCons (dC (.int 12)) dNil))))))
  Bd__law_args_5) := Classical.choose_spec ex_bd__law_args_4
theorem ex_bd__law_args_3 : ∃ x : DTS, x =
  (dSeq (dAsg 4 (dLc (iRng1 (dC (.int 6))) (bName 5) dYes (dOrV (dBin fEqS (dVar 2) (dC (.int 2))) (dAndV (dBin fEqS (dVar 2) (dC (.int 1))) (dBin fEqS (dVar 3) (dVar 5)))) [5] toLst))
  Bd__law_args_4) := ⟨_, rfl⟩
noncomputable def Bd__law_args_3 : DTS := Classical.choose ex_bd__law_args_3
@[simp] theorem bd__law_args_3 : Bd__law_args_3 =
  (dSeq (dAsg 4 (dLc (iRng1 (dC (.int 6))) (bName 5) dYes (dOrV (dBin fEqS (dVar 2) (dC (.int 2))) (dAndV (dBin fEqS (dVar 2) (dC (.int 1))) (dBin fEqS (dVar 3) (dVar 5)))) [5] toLst))
  Bd__law_args_4) := Classical.choose_spec ex_bd__law_args_3
theorem ex_bd__law_args_2 : ∃ x : DTS, x =
  (dSeq (dAsg 3 (dCall 2 [] dn__law_take (dCons (dVar 1) (dCons (dC (.int 6)) dNil))))
  Bd__law_args_3) := ⟨_, rfl⟩
noncomputable def Bd__law_args_2 : DTS := Classical.choose ex_bd__law_args_2
@[simp] theorem bd__law_args_2 : Bd__law_args_2 =
  (dSeq (dAsg 3 (dCall 2 [] dn__law_take (dCons (dVar 1) (dCons (dC (.int 6)) dNil))))
  Bd__law_args_3) := Classical.choose_spec ex_bd__law_args_2
theorem ex_bd__law_args_1 : ∃ x : DTS, x =
  (dSeq (dAsg 2 (dCall 2 [] dn__law_take (dCons (dVar 1) (dCons (dC (.int 3)) dNil))))
  Bd__law_args_2) := ⟨_, rfl⟩
noncomputable def Bd__law_args_1 : DTS := Classical.choose ex_bd__law_args_1
@[simp] theorem bd__law_args_1 : Bd__law_args_1 =
  (dSeq (dAsg 2 (dCall 2 [] dn__law_take (dCons (dVar 1) (dCons (dC (.int 3)) dNil))))
  Bd__law_args_2) := Classical.choose_spec ex_bd__law_args_1
theorem ex_bd__law_args : ∃ x : DTS, x =
  (dSeq (dAsg 1 (dCall 2 [] dn__law_hand (dCons (dVar 0) (dCons (dC (.int 0)) dNil))))
  Bd__law_args_1) := ⟨_, rfl⟩
noncomputable def Bd__law_args : DTS := Classical.choose ex_bd__law_args
theorem bd__law_args : Bd__law_args =
  (dSeq (dAsg 1 (dCall 2 [] dn__law_hand (dCons (dVar 0) (dCons (dC (.int 0)) dNil))))
  Bd__law_args_1) := Classical.choose_spec ex_bd__law_args
noncomputable def dn__law_args : DSp := dFn 1 13 Bd__law_args
/-! _law_filled -/
abbrev N__law_filled : List Str := ["args", "way", "usual", "filled", "k"]
theorem ex_bd__law_filled_3 : ∃ x : DTS, x =
  (dRet (dVar 3)) := ⟨_, rfl⟩
noncomputable def Bd__law_filled_3 : DTS := Classical.choose ex_bd__law_filled_3
@[simp] theorem bd__law_filled_3 : Bd__law_filled_3 =
  (dRet (dVar 3)) := Classical.choose_spec ex_bd__law_filled_3
theorem ex_bd__law_filled_2 : ∃ x : DTS, x =
  (dSeq (dFor (iRng2 (dC (.int 1)) (dC (.int 7))) (bName 4) (dIf (dOr (dB (dBin fEqS (dVar 1) (dVar 4))) (dOr (dB (dBin fEqS (dVar 1) (dC (.int 7)))) (dOr (dAnd (dB (dBin fEqS (dVar 1) (dC (.int 8)))) (dB (dBin fNeS (dVar 4) (dC (.int 1))))) (dAnd (dB (dBin fEqS (dVar 1) (dC (.int 9)))) (dB (dBin (fIn true) (dVar 4) (dTup (dCons (dC (.int 3)) (dCons (dC (.int 6)) dNil))))))))) (dSub (dVar 3) (dVar 4) (dBin fIx (dVar 2) (dVar 4))) dNext))
  Bd__law_filled_3) := ⟨_, rfl⟩
noncomputable def Bd__law_filled_2 : DTS := Classical.choose ex_bd__law_filled_2
@[simp] theorem bd__law_filled_2 : Bd__law_filled_2 =
  (dSeq (dFor (iRng2 (dC (.int 1)) (dC (.int 7))) (bName 4) (dIf (dOr (dB (dBin fEqS (dVar 1) (dVar 4))) (dOr (dB (dBin fEqS (dVar 1) (dC (.int 7)))) (dOr (dAnd (dB (dBin fEqS (dVar 1) (dC (.int 8)))) (dB (dBin fNeS (dVar 4) (dC (.int 1))))) (dAnd (dB (dBin fEqS (dVar 1) (dC (.int 9)))) (dB (dBin (fIn true) (dVar 4) (dTup (dCons (dC (.int 3)) (dCons (dC (.int 6)) dNil))))))))) (dSub (dVar 3) (dVar 4) (dBin fIx (dVar 2) (dVar 4))) dNext))
  Bd__law_filled_3) := Classical.choose_spec ex_bd__law_filled_2
theorem ex_bd__law_filled_1 : ∃ x : DTS, x =
  (dSeq (dAsg 3 (dCB cListM (dCons (dVar 0) dNil)))
  Bd__law_filled_2) := ⟨_, rfl⟩
noncomputable def Bd__law_filled_1 : DTS := Classical.choose ex_bd__law_filled_1
@[simp] theorem bd__law_filled_1 : Bd__law_filled_1 =
  (dSeq (dAsg 3 (dCB cListM (dCons (dVar 0) dNil)))
  Bd__law_filled_2) := Classical.choose_spec ex_bd__law_filled_1
theorem ex_bd__law_filled : ∃ x : DTS, x =
  (dSeq (dAsg 2 (dLst (dCons (dC .non) (dCons (dC (.int 1)) (dCons (dC .non) (dCons (dC (.int 0)) (dCons (dTup dNil) (dCons (dTup dNil) (dCons (dC (.bl false)) dNil)))))))))
  Bd__law_filled_1) := ⟨_, rfl⟩
noncomputable def Bd__law_filled : DTS := Classical.choose ex_bd__law_filled
theorem bd__law_filled : Bd__law_filled =
  (dSeq (dAsg 2 (dLst (dCons (dC .non) (dCons (dC (.int 1)) (dCons (dC .non) (dCons (dC (.int 0)) (dCons (dTup dNil) (dCons (dTup dNil) (dCons (dC (.bl false)) dNil)))))))))
  Bd__law_filled_1) := Classical.choose_spec ex_bd__law_filled
noncomputable def dn__law_filled : DSp := dFn 2 5 Bd__law_filled
/-! _law_up -/
abbrev N__law_up : List Str := ["row", "y"]
theorem ex_bd__law_up : ∃ x : DTS, x =
  (dRet (dCB cTuple (dCons (dLc (iRng1 (dC (.int 6))) (bName 1) (dB (dBin (fIn false) (dVar 1) (dVar 0))) (dVar 1) [1] toLst) dNil))) := ⟨_, rfl⟩
noncomputable def Bd__law_up : DTS := Classical.choose ex_bd__law_up
theorem bd__law_up : Bd__law_up =
  (dRet (dCB cTuple (dCons (dLc (iRng1 (dC (.int 6))) (bName 1) (dB (dBin (fIn false) (dVar 1) (dVar 0))) (dVar 1) [1] toLst) dNil))) := Classical.choose_spec ex_bd__law_up
noncomputable def dn__law_up : DSp := dFn 1 2 Bd__law_up
/-! _law_wrong -/
abbrev N__law_wrong : List Str := ["filled", "upper"]
theorem ex_bd__law_wrong_8 : ∃ x : DTS, x =
  (dRet (dC .non)) := ⟨_, rfl⟩
noncomputable def Bd__law_wrong_8 : DTS := Classical.choose ex_bd__law_wrong_8
@[simp] theorem bd__law_wrong_8 : Bd__law_wrong_8 =
  (dRet (dC .non)) := Classical.choose_spec ex_bd__law_wrong_8
theorem ex_bd__law_wrong_7 : ∃ x : DTS, x =
  (dSeq (dIf (dB (dBin (fEqD true) (dCB cSortA (dCons (dBin fIx (dVar 0) (dC (.int 5))) dNil)) (dCB cList (dCons (dCall 1 [] dn__law_up (dCons (dBin fIx (dVar 0) (dC (.int 5))) dNil)) dNil)))) (dRet (dC (.str "calls"))) dNext)
  Bd__law_wrong_8) := ⟨_, rfl⟩
noncomputable def Bd__law_wrong_7 : DTS := Classical.choose ex_bd__law_wrong_7
@[simp] theorem bd__law_wrong_7 : Bd__law_wrong_7 =
  (dSeq (dIf (dB (dBin (fEqD true) (dCB cSortA (dCons (dBin fIx (dVar 0) (dC (.int 5))) dNil)) (dCB cList (dCons (dCall 1 [] dn__law_up (dCons (dBin fIx (dVar 0) (dC (.int 5))) dNil)) dNil)))) (dRet (dC (.str "calls"))) dNext)
  Bd__law_wrong_8) := Classical.choose_spec ex_bd__law_wrong_7
theorem ex_bd__law_wrong_6 : ∃ x : DTS, x =
  (dSeq (dIf (dB (dBin (fEqD true) (dCB cSortA (dCons (dBin fIx (dVar 0) (dC (.int 4))) dNil)) (dCB cList (dCons (dCall 1 [] dn__law_up (dCons (dBin fIx (dVar 0) (dC (.int 4))) dNil)) dNil)))) (dRet (dC (.str "holds"))) dNext)
  Bd__law_wrong_7) := ⟨_, rfl⟩
noncomputable def Bd__law_wrong_6 : DTS := Classical.choose ex_bd__law_wrong_6
@[simp] theorem bd__law_wrong_6 : Bd__law_wrong_6 =
  (dSeq (dIf (dB (dBin (fEqD true) (dCB cSortA (dCons (dBin fIx (dVar 0) (dC (.int 4))) dNil)) (dCB cList (dCons (dCall 1 [] dn__law_up (dCons (dBin fIx (dVar 0) (dC (.int 4))) dNil)) dNil)))) (dRet (dC (.str "holds"))) dNext)
  Bd__law_wrong_7) := Classical.choose_spec ex_bd__law_wrong_6
theorem ex_bd__law_wrong_5 : ∃ x : DTS, x =
  (dSeq (dIf (dOr (dB (dBin fLt (dBin fIx (dVar 0) (dC (.int 3))) (dC (.int 0)))) (dB (dBin fGt (dBin fIx (dVar 0) (dC (.int 3))) (dC (.int 9))))) (dRet (dC (.str "pause"))) dNext)
  Bd__law_wrong_6) := ⟨_, rfl⟩
noncomputable def Bd__law_wrong_5 : DTS := Classical.choose ex_bd__law_wrong_5
@[simp] theorem bd__law_wrong_5 : Bd__law_wrong_5 =
  (dSeq (dIf (dOr (dB (dBin fLt (dBin fIx (dVar 0) (dC (.int 3))) (dC (.int 0)))) (dB (dBin fGt (dBin fIx (dVar 0) (dC (.int 3))) (dC (.int 9))))) (dRet (dC (.str "pause"))) dNext)
  Bd__law_wrong_6) := Classical.choose_spec ex_bd__law_wrong_5
theorem ex_bd__law_wrong_4 : ∃ x : DTS, x =
  (dSeq (dIf (dOr (dB (dBin fLt (dVar 1) (dBin fIx (dVar 0) (dC (.int 1))))) (dB (dBin fGt (dVar 1) (dC (.int 12))))) (dRet (dC (.str "most"))) dNext)
  Bd__law_wrong_5) := ⟨_, rfl⟩
noncomputable def Bd__law_wrong_4 : DTS := Classical.choose ex_bd__law_wrong_4
@[simp] theorem bd__law_wrong_4 : Bd__law_wrong_4 =
  (dSeq (dIf (dOr (dB (dBin fLt (dVar 1) (dBin fIx (dVar 0) (dC (.int 1))))) (dB (dBin fGt (dVar 1) (dC (.int 12))))) (dRet (dC (.str "most"))) dNext)
  Bd__law_wrong_5) := Classical.choose_spec ex_bd__law_wrong_4
theorem ex_bd__law_wrong_3 : ∃ x : DTS, x =
  (dSeq (dIf (dOr (dB (dBin fLt (dBin fIx (dVar 0) (dC (.int 1))) (dC (.int 1)))) (dB (dBin fGt (dBin fIx (dVar 0) (dC (.int 1))) (dC (.int 12))))) (dRet (dC (.str "least"))) dNext)
  Bd__law_wrong_4) := ⟨_, rfl⟩
noncomputable def Bd__law_wrong_3 : DTS := Classical.choose ex_bd__law_wrong_3
@[simp] theorem bd__law_wrong_3 : Bd__law_wrong_3 =
  (dSeq (dIf (dOr (dB (dBin fLt (dBin fIx (dVar 0) (dC (.int 1))) (dC (.int 1)))) (dB (dBin fGt (dBin fIx (dVar 0) (dC (.int 1))) (dC (.int 12))))) (dRet (dC (.str "least"))) dNext)
  Bd__law_wrong_4) := Classical.choose_spec ex_bd__law_wrong_3
theorem ex_bd__law_wrong_2 : ∃ x : DTS, x =
  (dSeq (dIf (dB (dBin (fEqD true) (dCB cSortA (dCons (dBin fIx (dVar 0) (dC (.int 0))) dNil)) (dCB cList (dCons (dCall 1 [] dn__law_up (dCons (dBin fIx (dVar 0) (dC (.int 0))) dNil)) dNil)))) (dRet (dC (.str "green"))) dNext)
  Bd__law_wrong_3) := ⟨_, rfl⟩
noncomputable def Bd__law_wrong_2 : DTS := Classical.choose ex_bd__law_wrong_2
@[simp] theorem bd__law_wrong_2 : Bd__law_wrong_2 =
  (dSeq (dIf (dB (dBin (fEqD true) (dCB cSortA (dCons (dBin fIx (dVar 0) (dC (.int 0))) dNil)) (dCB cList (dCons (dCall 1 [] dn__law_up (dCons (dBin fIx (dVar 0) (dC (.int 0))) dNil)) dNil)))) (dRet (dC (.str "green"))) dNext)
  Bd__law_wrong_3) := Classical.choose_spec ex_bd__law_wrong_2
theorem ex_bd__law_wrong_1 : ∃ x : DTS, x =
  (dSeq (dIf (dB (dBin fIs (dVar 1) (dC .non))) (dAsg 1 (dBin fIx (dVar 0) (dC (.int 1)))) dNext)
  Bd__law_wrong_2) := ⟨_, rfl⟩
noncomputable def Bd__law_wrong_1 : DTS := Classical.choose ex_bd__law_wrong_1
@[simp] theorem bd__law_wrong_1 : Bd__law_wrong_1 =
  (dSeq (dIf (dB (dBin fIs (dVar 1) (dC .non))) (dAsg 1 (dBin fIx (dVar 0) (dC (.int 1)))) dNext)
  Bd__law_wrong_2) := Classical.choose_spec ex_bd__law_wrong_1
theorem ex_bd__law_wrong : ∃ x : DTS, x =
  (dSeq (dAsg 1 (dBin fIx (dVar 0) (dC (.int 2))))
  Bd__law_wrong_1) := ⟨_, rfl⟩
noncomputable def Bd__law_wrong : DTS := Classical.choose ex_bd__law_wrong
theorem bd__law_wrong : Bd__law_wrong =
  (dSeq (dAsg 1 (dBin fIx (dVar 0) (dC (.int 2))))
  Bd__law_wrong_1) := Classical.choose_spec ex_bd__law_wrong
noncomputable def dn__law_wrong : DSp := dFn 1 2 Bd__law_wrong
/-! _law_handed -/
abbrev N__law_handed : List Str := ["args", "lists", "row", "k"]
theorem ex_bd__law_handed_2 : ∃ x : DTS, x =
  (dRet (dVar 2)) := ⟨_, rfl⟩
noncomputable def Bd__law_handed_2 : DTS := Classical.choose ex_bd__law_handed_2
@[simp] theorem bd__law_handed_2 : Bd__law_handed_2 =
  (dRet (dVar 2)) := Classical.choose_spec ex_bd__law_handed_2
theorem ex_bd__law_handed_1 : ∃ x : DTS, x =
  (dSeq (dFor (iAny its (dTup (dCons (dC (.int 0)) (dCons (dC (.int 4)) (dCons (dC (.int 5)) dNil))))) (bName 3) (dSeq (dSubS 2 (dVar 3) (dCB cListM (dCons (dBin fIx (dVar 0) (dVar 3)) dNil)))
  (dIf (dNot (dTr (dVar 1))) (dSubS 2 (dVar 3) (dCB cTuple (dCons (dBin fIx (dVar 0) (dVar 3)) dNil))) dNext)))
  Bd__law_handed_2) := ⟨_, rfl⟩
noncomputable def Bd__law_handed_1 : DTS := Classical.choose ex_bd__law_handed_1
@[simp] theorem bd__law_handed_1 : Bd__law_handed_1 =
  (dSeq (dFor (iAny its (dTup (dCons (dC (.int 0)) (dCons (dC (.int 4)) (dCons (dC (.int 5)) dNil))))) (bName 3) (dSeq (dSubS 2 (dVar 3) (dCB cListM (dCons (dBin fIx (dVar 0) (dVar 3)) dNil)))
  (dIf (dNot (dTr (dVar 1))) (dSubS 2 (dVar 3) (dCB cTuple (dCons (dBin fIx (dVar 0) (dVar 3)) dNil))) dNext)))
  Bd__law_handed_2) := Classical.choose_spec ex_bd__law_handed_1
theorem ex_bd__law_handed : ∃ x : DTS, x =
  (dSeq (dAsg 2 (dCB cListM (dCons (dVar 0) dNil)))
  Bd__law_handed_1) := ⟨_, rfl⟩
noncomputable def Bd__law_handed : DTS := Classical.choose ex_bd__law_handed
theorem bd__law_handed : Bd__law_handed =
  (dSeq (dAsg 2 (dCB cListM (dCons (dVar 0) dNil)))
  Bd__law_handed_1) := Classical.choose_spec ex_bd__law_handed
noncomputable def dn__law_handed : DSp := dFnX 2 4 Bd__law_handed
/-! are_streams -/
abbrev N_are_streams : List Str := ["numbers", "place", "number"]
theorem ex_bd_are_streams_1 : ∃ x : DTS, x =
  (dRet (dC (.bl true))) := ⟨_, rfl⟩
noncomputable def Bd_are_streams_1 : DTS := Classical.choose ex_bd_are_streams_1
@[simp] theorem bd_are_streams_1 : Bd_are_streams_1 =
  (dRet (dC (.bl true))) := Classical.choose_spec ex_bd_are_streams_1
theorem ex_bd_are_streams : ∃ x : DTS, x =
  (dSeq (dFor (iEnumT (dVar 0)) (bTup [(bName 1), (bName 2)]) (dIf (dOr (dNot (dB (dChain fLe fLe (dC (.int 0)) (dVar 2) (dC (.int 5))))) (dB (dBin (fIn false) (dVar 2) (dSl toLst (dVar 0) dNoPart (dPart (dVar 1)))))) (dRet (dC (.bl false))) dNext))
  Bd_are_streams_1) := ⟨_, rfl⟩
noncomputable def Bd_are_streams : DTS := Classical.choose ex_bd_are_streams
theorem bd_are_streams : Bd_are_streams =
  (dSeq (dFor (iEnumT (dVar 0)) (bTup [(bName 1), (bName 2)]) (dIf (dOr (dNot (dB (dChain fLe fLe (dC (.int 0)) (dVar 2) (dC (.int 5))))) (dB (dBin (fIn false) (dVar 2) (dSl toLst (dVar 0) dNoPart (dPart (dVar 1)))))) (dRet (dC (.bl false))) dNext))
  Bd_are_streams_1) := Classical.choose_spec ex_bd_are_streams
noncomputable def dn_are_streams : DSp := dFn 1 3 Bd_are_streams
/-! check_phase -/
abbrev N_check_phase : List Str := ["green", "least", "most", "pause", "holds", "calls"]
theorem ex_bd_check_phase_5 : ∃ x : DTS, x =
  (dIf (dNot (dTr (dCall 1 [] dn_are_streams (dCons (dVar 5) dNil)))) (dRX "BadPhase" ["part"] (dCons (dC (.str "calls")) dNil)) dNext) := ⟨_, rfl⟩
noncomputable def Bd_check_phase_5 : DTS := Classical.choose ex_bd_check_phase_5
@[simp] theorem bd_check_phase_5 : Bd_check_phase_5 =
  (dIf (dNot (dTr (dCall 1 [] dn_are_streams (dCons (dVar 5) dNil)))) (dRX "BadPhase" ["part"] (dCons (dC (.str "calls")) dNil)) dNext) := Classical.choose_spec ex_bd_check_phase_5
theorem ex_bd_check_phase_4 : ∃ x : DTS, x =
  (dSeq (dIf (dNot (dTr (dCall 1 [] dn_are_streams (dCons (dVar 4) dNil)))) (dRX "BadPhase" ["part"] (dCons (dC (.str "holds")) dNil)) dNext)
  Bd_check_phase_5) := ⟨_, rfl⟩
noncomputable def Bd_check_phase_4 : DTS := Classical.choose ex_bd_check_phase_4
@[simp] theorem bd_check_phase_4 : Bd_check_phase_4 =
  (dSeq (dIf (dNot (dTr (dCall 1 [] dn_are_streams (dCons (dVar 4) dNil)))) (dRX "BadPhase" ["part"] (dCons (dC (.str "holds")) dNil)) dNext)
  Bd_check_phase_5) := Classical.choose_spec ex_bd_check_phase_4
theorem ex_bd_check_phase_3 : ∃ x : DTS, x =
  (dSeq (dIf (dNot (dB (dChain fLe fLe (dC (.int 0)) (dVar 3) (dC (.int 9))))) (dRX "BadPhase" ["part"] (dCons (dC (.str "pause")) dNil)) dNext)
  Bd_check_phase_4) := ⟨_, rfl⟩
noncomputable def Bd_check_phase_3 : DTS := Classical.choose ex_bd_check_phase_3
@[simp] theorem bd_check_phase_3 : Bd_check_phase_3 =
  (dSeq (dIf (dNot (dB (dChain fLe fLe (dC (.int 0)) (dVar 3) (dC (.int 9))))) (dRX "BadPhase" ["part"] (dCons (dC (.str "pause")) dNil)) dNext)
  Bd_check_phase_4) := Classical.choose_spec ex_bd_check_phase_3
theorem ex_bd_check_phase_2 : ∃ x : DTS, x =
  (dSeq (dIf (dNot (dB (dChain fLe fLe (dVar 1) (dVar 2) (dC (.int 12))))) (dRX "BadPhase" ["part"] (dCons (dC (.str "most")) dNil)) dNext)
  Bd_check_phase_3) := ⟨_, rfl⟩
noncomputable def Bd_check_phase_2 : DTS := Classical.choose ex_bd_check_phase_2
@[simp] theorem bd_check_phase_2 : Bd_check_phase_2 =
  (dSeq (dIf (dNot (dB (dChain fLe fLe (dVar 1) (dVar 2) (dC (.int 12))))) (dRX "BadPhase" ["part"] (dCons (dC (.str "most")) dNil)) dNext)
  Bd_check_phase_3) := Classical.choose_spec ex_bd_check_phase_2
theorem ex_bd_check_phase_1 : ∃ x : DTS, x =
  (dSeq (dIf (dNot (dB (dChain fLe fLe (dC (.int 1)) (dVar 1) (dC (.int 12))))) (dRX "BadPhase" ["part"] (dCons (dC (.str "least")) dNil)) dNext)
  Bd_check_phase_2) := ⟨_, rfl⟩
noncomputable def Bd_check_phase_1 : DTS := Classical.choose ex_bd_check_phase_1
@[simp] theorem bd_check_phase_1 : Bd_check_phase_1 =
  (dSeq (dIf (dNot (dB (dChain fLe fLe (dC (.int 1)) (dVar 1) (dC (.int 12))))) (dRX "BadPhase" ["part"] (dCons (dC (.str "least")) dNil)) dNext)
  Bd_check_phase_2) := Classical.choose_spec ex_bd_check_phase_1
theorem ex_bd_check_phase : ∃ x : DTS, x =
  (dSeq (dIf (dNot (dTr (dCall 1 [] dn_are_streams (dCons (dVar 0) dNil)))) (dRX "BadPhase" ["part"] (dCons (dC (.str "green")) dNil)) dNext)
  Bd_check_phase_1) := ⟨_, rfl⟩
noncomputable def Bd_check_phase : DTS := Classical.choose ex_bd_check_phase
theorem bd_check_phase : Bd_check_phase =
  (dSeq (dIf (dNot (dTr (dCall 1 [] dn_are_streams (dCons (dVar 0) dNil)))) (dRX "BadPhase" ["part"] (dCons (dC (.str "green")) dNil)) dNext)
  Bd_check_phase_1) := Classical.choose_spec ex_bd_check_phase
noncomputable def dn_check_phase : DSp := dFn 6 6 Bd_check_phase
/-! Phase.__init__ -/
abbrev N_Phase_init_d : List Str := ["self", "green", "least", "most", "pause", "holds", "calls", "yields", "greatest"]
theorem ex_bd_Phase_init_d_8 : ∃ x : DTS, x =
  (dSetF ["Phase"] "yields" (dVar 0) (dVar 7)) := ⟨_, rfl⟩
noncomputable def Bd_Phase_init_d_8 : DTS := Classical.choose ex_bd_Phase_init_d_8
@[simp] theorem bd_Phase_init_d_8 : Bd_Phase_init_d_8 =
  (dSetF ["Phase"] "yields" (dVar 0) (dVar 7)) := Classical.choose_spec ex_bd_Phase_init_d_8
theorem ex_bd_Phase_init_d_7 : ∃ x : DTS, x =
  (dSeq (dSetF ["Phase"] "calls" (dVar 0) (dCB cTuple (dCons (dCB cSortA (dCons (dVar 6) dNil)) dNil)))
  Bd_Phase_init_d_8) := ⟨_, rfl⟩
noncomputable def Bd_Phase_init_d_7 : DTS := Classical.choose ex_bd_Phase_init_d_7
@[simp] theorem bd_Phase_init_d_7 : Bd_Phase_init_d_7 =
  (dSeq (dSetF ["Phase"] "calls" (dVar 0) (dCB cTuple (dCons (dCB cSortA (dCons (dVar 6) dNil)) dNil)))
  Bd_Phase_init_d_8) := Classical.choose_spec ex_bd_Phase_init_d_7
theorem ex_bd_Phase_init_d_6 : ∃ x : DTS, x =
  (dSeq (dSetF ["Phase"] "holds" (dVar 0) (dCB cTuple (dCons (dCB cSortA (dCons (dVar 5) dNil)) dNil)))
  Bd_Phase_init_d_7) := ⟨_, rfl⟩
noncomputable def Bd_Phase_init_d_6 : DTS := Classical.choose ex_bd_Phase_init_d_6
@[simp] theorem bd_Phase_init_d_6 : Bd_Phase_init_d_6 =
  (dSeq (dSetF ["Phase"] "holds" (dVar 0) (dCB cTuple (dCons (dCB cSortA (dCons (dVar 5) dNil)) dNil)))
  Bd_Phase_init_d_7) := Classical.choose_spec ex_bd_Phase_init_d_6
theorem ex_bd_Phase_init_d_5 : ∃ x : DTS, x =
  (dSeq (dSetF ["Phase"] "pause" (dVar 0) (dVar 4))
  Bd_Phase_init_d_6) := ⟨_, rfl⟩
noncomputable def Bd_Phase_init_d_5 : DTS := Classical.choose ex_bd_Phase_init_d_5
@[simp] theorem bd_Phase_init_d_5 : Bd_Phase_init_d_5 =
  (dSeq (dSetF ["Phase"] "pause" (dVar 0) (dVar 4))
  Bd_Phase_init_d_6) := Classical.choose_spec ex_bd_Phase_init_d_5
theorem ex_bd_Phase_init_d_4 : ∃ x : DTS, x =
  (dSeq (dSetF ["Phase"] "most" (dVar 0) (dVar 8))
  Bd_Phase_init_d_5) := ⟨_, rfl⟩
noncomputable def Bd_Phase_init_d_4 : DTS := Classical.choose ex_bd_Phase_init_d_4
@[simp] theorem bd_Phase_init_d_4 : Bd_Phase_init_d_4 =
  (dSeq (dSetF ["Phase"] "most" (dVar 0) (dVar 8))
  Bd_Phase_init_d_5) := Classical.choose_spec ex_bd_Phase_init_d_4
theorem ex_bd_Phase_init_d_3 : ∃ x : DTS, x =
  (dSeq (dSetF ["Phase"] "least" (dVar 0) (dVar 2))
  Bd_Phase_init_d_4) := ⟨_, rfl⟩
noncomputable def Bd_Phase_init_d_3 : DTS := Classical.choose ex_bd_Phase_init_d_3
@[simp] theorem bd_Phase_init_d_3 : Bd_Phase_init_d_3 =
  (dSeq (dSetF ["Phase"] "least" (dVar 0) (dVar 2))
  Bd_Phase_init_d_4) := Classical.choose_spec ex_bd_Phase_init_d_3
theorem ex_bd_Phase_init_d_2 : ∃ x : DTS, x =
  (dSeq (dSetF ["Phase"] "green" (dVar 0) (dCB cTuple (dCons (dCB cSortA (dCons (dVar 1) dNil)) dNil)))
  Bd_Phase_init_d_3) := ⟨_, rfl⟩
noncomputable def Bd_Phase_init_d_2 : DTS := Classical.choose ex_bd_Phase_init_d_2
@[simp] theorem bd_Phase_init_d_2 : Bd_Phase_init_d_2 =
  (dSeq (dSetF ["Phase"] "green" (dVar 0) (dCB cTuple (dCons (dCB cSortA (dCons (dVar 1) dNil)) dNil)))
  Bd_Phase_init_d_3) := Classical.choose_spec ex_bd_Phase_init_d_2
theorem ex_bd_Phase_init_d_1 : ∃ x : DTS, x =
  (dSeq (dExp (dCall 6 [] dn_check_phase (dCons (dVar 1) (dCons (dVar 2) (dCons (dVar 8) (dCons (dVar 4) (dCons (dVar 5) (dCons (dVar 6) dNil))))))))
  Bd_Phase_init_d_2) := ⟨_, rfl⟩
noncomputable def Bd_Phase_init_d_1 : DTS := Classical.choose ex_bd_Phase_init_d_1
@[simp] theorem bd_Phase_init_d_1 : Bd_Phase_init_d_1 =
  (dSeq (dExp (dCall 6 [] dn_check_phase (dCons (dVar 1) (dCons (dVar 2) (dCons (dVar 8) (dCons (dVar 4) (dCons (dVar 5) (dCons (dVar 6) dNil))))))))
  Bd_Phase_init_d_2) := Classical.choose_spec ex_bd_Phase_init_d_1
theorem ex_bd_Phase_init_d : ∃ x : DTS, x =
  (dSeq (dAsg 8 (dIfE (dB (dBin fIs (dVar 3) (dC .non))) (dVar 2) (dVar 3)))
  Bd_Phase_init_d_1) := ⟨_, rfl⟩
noncomputable def Bd_Phase_init_d : DTS := Classical.choose ex_bd_Phase_init_d
theorem bd_Phase_init_d : Bd_Phase_init_d =
  (dSeq (dAsg 8 (dIfE (dB (dBin fIs (dVar 3) (dC .non))) (dVar 2) (dVar 3)))
  Bd_Phase_init_d_1) := Classical.choose_spec ex_bd_Phase_init_d
noncomputable def dn_Phase_init_d : DSp := dFn 8 9 Bd_Phase_init_d
/-! _law_called -/
abbrev N__law_called : List Str := ["row", "way"]
theorem ex_bd__law_called_9 : ∃ x : DTS, x =
  (dRet (dMakeK "Phase" 1 8 6 [(true, 0), (true, 1), (true, 2), (true, 3), (true, 4), (true, 5)] [] dn_Phase_init_d (dCons (dBin fIx (dVar 0) (dC (.int 0))) dNil) (dCons (dBin fIx (dVar 0) (dC (.int 1))) (dCons (dBin fIx (dVar 0) (dC (.int 2))) (dCons (dBin fIx (dVar 0) (dC (.int 3))) (dCons (dBin fIx (dVar 0) (dC (.int 4))) (dCons (dBin fIx (dVar 0) (dC (.int 5))) (dCons (dBin fIx (dVar 0) (dC (.int 6))) dNil)))))))) := ⟨_, rfl⟩
noncomputable def Bd__law_called_9 : DTS := Classical.choose ex_bd__law_called_9
@[simp] theorem bd__law_called_9 : Bd__law_called_9 =
  (dRet (dMakeK "Phase" 1 8 6 [(true, 0), (true, 1), (true, 2), (true, 3), (true, 4), (true, 5)] [] dn_Phase_init_d (dCons (dBin fIx (dVar 0) (dC (.int 0))) dNil) (dCons (dBin fIx (dVar 0) (dC (.int 1))) (dCons (dBin fIx (dVar 0) (dC (.int 2))) (dCons (dBin fIx (dVar 0) (dC (.int 3))) (dCons (dBin fIx (dVar 0) (dC (.int 4))) (dCons (dBin fIx (dVar 0) (dC (.int 5))) (dCons (dBin fIx (dVar 0) (dC (.int 6))) dNil)))))))) := Classical.choose_spec ex_bd__law_called_9
theorem ex_bd__law_called_8 : ∃ x : DTS, x =
  (dSeq (dIf (dB (dBin fEqS (dVar 1) (dC (.int 9)))) (dRet (dMakeK "Phase" 1 8 2 [(false, 0), (false, 1), (true, 0), (false, 2), (false, 3), (true, 1)] [.int 1, .non, .tup [], .tup []] dn_Phase_init_d (dCons (dBin fIx (dVar 0) (dC (.int 0))) dNil) (dCons (dBin fIx (dVar 0) (dC (.int 3))) (dCons (dBin fIx (dVar 0) (dC (.int 6))) dNil)))) dNext)
  Bd__law_called_9) := ⟨_, rfl⟩
noncomputable def Bd__law_called_8 : DTS := Classical.choose ex_bd__law_called_8
@[simp] theorem bd__law_called_8 : Bd__law_called_8 =
  (dSeq (dIf (dB (dBin fEqS (dVar 1) (dC (.int 9)))) (dRet (dMakeK "Phase" 1 8 2 [(false, 0), (false, 1), (true, 0), (false, 2), (false, 3), (true, 1)] [.int 1, .non, .tup [], .tup []] dn_Phase_init_d (dCons (dBin fIx (dVar 0) (dC (.int 0))) dNil) (dCons (dBin fIx (dVar 0) (dC (.int 3))) (dCons (dBin fIx (dVar 0) (dC (.int 6))) dNil)))) dNext)
  Bd__law_called_9) := Classical.choose_spec ex_bd__law_called_8
theorem ex_bd__law_called_7 : ∃ x : DTS, x =
  (dSeq (dIf (dB (dBin fEqS (dVar 1) (dC (.int 8)))) (dRet (dMakeK "Phase" 1 8 1 [(true, 0), (false, 0), (false, 1), (false, 2), (false, 3), (false, 4)] [.non, .int 0, .tup [], .tup [], .bl false] dn_Phase_init_d (dCons (dBin fIx (dVar 0) (dC (.int 0))) dNil) (dCons (dBin fIx (dVar 0) (dC (.int 1))) dNil))) dNext)
  Bd__law_called_8) := ⟨_, rfl⟩
noncomputable def Bd__law_called_7 : DTS := Classical.choose ex_bd__law_called_7
@[simp] theorem bd__law_called_7 : Bd__law_called_7 =
  (dSeq (dIf (dB (dBin fEqS (dVar 1) (dC (.int 8)))) (dRet (dMakeK "Phase" 1 8 1 [(true, 0), (false, 0), (false, 1), (false, 2), (false, 3), (false, 4)] [.non, .int 0, .tup [], .tup [], .bl false] dn_Phase_init_d (dCons (dBin fIx (dVar 0) (dC (.int 0))) dNil) (dCons (dBin fIx (dVar 0) (dC (.int 1))) dNil))) dNext)
  Bd__law_called_8) := Classical.choose_spec ex_bd__law_called_7
theorem ex_bd__law_called_6 : ∃ x : DTS, x =
  (dSeq (dIf (dB (dBin fEqS (dVar 1) (dC (.int 7)))) (dRet (dMakeK "Phase" 1 8 0 [(false, 0), (false, 1), (false, 2), (false, 3), (false, 4), (false, 5)] [.int 1, .non, .int 0, .tup [], .tup [], .bl false] dn_Phase_init_d (dCons (dBin fIx (dVar 0) (dC (.int 0))) dNil) dNil)) dNext)
  Bd__law_called_7) := ⟨_, rfl⟩
noncomputable def Bd__law_called_6 : DTS := Classical.choose ex_bd__law_called_6
@[simp] theorem bd__law_called_6 : Bd__law_called_6 =
  (dSeq (dIf (dB (dBin fEqS (dVar 1) (dC (.int 7)))) (dRet (dMakeK "Phase" 1 8 0 [(false, 0), (false, 1), (false, 2), (false, 3), (false, 4), (false, 5)] [.int 1, .non, .int 0, .tup [], .tup [], .bl false] dn_Phase_init_d (dCons (dBin fIx (dVar 0) (dC (.int 0))) dNil) dNil)) dNext)
  Bd__law_called_7) := Classical.choose_spec ex_bd__law_called_6
theorem ex_bd__law_called_5 : ∃ x : DTS, x =
  (dSeq (dIf (dB (dBin fEqS (dVar 1) (dC (.int 6)))) (dRet (dMakeK "Phase" 1 8 5 [(true, 0), (true, 1), (true, 2), (true, 3), (true, 4), (false, 0)] [.bl false] dn_Phase_init_d (dCons (dBin fIx (dVar 0) (dC (.int 0))) dNil) (dCons (dBin fIx (dVar 0) (dC (.int 1))) (dCons (dBin fIx (dVar 0) (dC (.int 2))) (dCons (dBin fIx (dVar 0) (dC (.int 3))) (dCons (dBin fIx (dVar 0) (dC (.int 4))) (dCons (dBin fIx (dVar 0) (dC (.int 5))) dNil))))))) dNext)
  Bd__law_called_6) := ⟨_, rfl⟩
noncomputable def Bd__law_called_5 : DTS := Classical.choose ex_bd__law_called_5
@[simp] theorem bd__law_called_5 : Bd__law_called_5 =
  (dSeq (dIf (dB (dBin fEqS (dVar 1) (dC (.int 6)))) (dRet (dMakeK "Phase" 1 8 5 [(true, 0), (true, 1), (true, 2), (true, 3), (true, 4), (false, 0)] [.bl false] dn_Phase_init_d (dCons (dBin fIx (dVar 0) (dC (.int 0))) dNil) (dCons (dBin fIx (dVar 0) (dC (.int 1))) (dCons (dBin fIx (dVar 0) (dC (.int 2))) (dCons (dBin fIx (dVar 0) (dC (.int 3))) (dCons (dBin fIx (dVar 0) (dC (.int 4))) (dCons (dBin fIx (dVar 0) (dC (.int 5))) dNil))))))) dNext)
  Bd__law_called_6) := Classical.choose_spec ex_bd__law_called_5
theorem ex_bd__law_called_4 : ∃ x : DTS, x =
  (dSeq (dIf (dB (dBin fEqS (dVar 1) (dC (.int 5)))) (dRet (dMakeK "Phase" 1 8 5 [(true, 0), (true, 1), (true, 2), (true, 3), (false, 0), (true, 4)] [.tup []] dn_Phase_init_d (dCons (dBin fIx (dVar 0) (dC (.int 0))) dNil) (dCons (dBin fIx (dVar 0) (dC (.int 1))) (dCons (dBin fIx (dVar 0) (dC (.int 2))) (dCons (dBin fIx (dVar 0) (dC (.int 3))) (dCons (dBin fIx (dVar 0) (dC (.int 4))) (dCons (dBin fIx (dVar 0) (dC (.int 6))) dNil))))))) dNext)
  Bd__law_called_5) := ⟨_, rfl⟩
noncomputable def Bd__law_called_4 : DTS := Classical.choose ex_bd__law_called_4
@[simp] theorem bd__law_called_4 : Bd__law_called_4 =
  (dSeq (dIf (dB (dBin fEqS (dVar 1) (dC (.int 5)))) (dRet (dMakeK "Phase" 1 8 5 [(true, 0), (true, 1), (true, 2), (true, 3), (false, 0), (true, 4)] [.tup []] dn_Phase_init_d (dCons (dBin fIx (dVar 0) (dC (.int 0))) dNil) (dCons (dBin fIx (dVar 0) (dC (.int 1))) (dCons (dBin fIx (dVar 0) (dC (.int 2))) (dCons (dBin fIx (dVar 0) (dC (.int 3))) (dCons (dBin fIx (dVar 0) (dC (.int 4))) (dCons (dBin fIx (dVar 0) (dC (.int 6))) dNil))))))) dNext)
  Bd__law_called_5) := Classical.choose_spec ex_bd__law_called_4
theorem ex_bd__law_called_3 : ∃ x : DTS, x =
  (dSeq (dIf (dB (dBin fEqS (dVar 1) (dC (.int 4)))) (dRet (dMakeK "Phase" 1 8 5 [(true, 0), (true, 1), (true, 2), (false, 0), (true, 3), (true, 4)] [.tup []] dn_Phase_init_d (dCons (dBin fIx (dVar 0) (dC (.int 0))) dNil) (dCons (dBin fIx (dVar 0) (dC (.int 1))) (dCons (dBin fIx (dVar 0) (dC (.int 2))) (dCons (dBin fIx (dVar 0) (dC (.int 3))) (dCons (dBin fIx (dVar 0) (dC (.int 5))) (dCons (dBin fIx (dVar 0) (dC (.int 6))) dNil))))))) dNext)
  Bd__law_called_4) := ⟨_, rfl⟩
noncomputable def Bd__law_called_3 : DTS := Classical.choose ex_bd__law_called_3
@[simp] theorem bd__law_called_3 : Bd__law_called_3 =
  (dSeq (dIf (dB (dBin fEqS (dVar 1) (dC (.int 4)))) (dRet (dMakeK "Phase" 1 8 5 [(true, 0), (true, 1), (true, 2), (false, 0), (true, 3), (true, 4)] [.tup []] dn_Phase_init_d (dCons (dBin fIx (dVar 0) (dC (.int 0))) dNil) (dCons (dBin fIx (dVar 0) (dC (.int 1))) (dCons (dBin fIx (dVar 0) (dC (.int 2))) (dCons (dBin fIx (dVar 0) (dC (.int 3))) (dCons (dBin fIx (dVar 0) (dC (.int 5))) (dCons (dBin fIx (dVar 0) (dC (.int 6))) dNil))))))) dNext)
  Bd__law_called_4) := Classical.choose_spec ex_bd__law_called_3
theorem ex_bd__law_called_2 : ∃ x : DTS, x =
  (dSeq (dIf (dB (dBin fEqS (dVar 1) (dC (.int 3)))) (dRet (dMakeK "Phase" 1 8 5 [(true, 0), (true, 1), (false, 0), (true, 2), (true, 3), (true, 4)] [.int 0] dn_Phase_init_d (dCons (dBin fIx (dVar 0) (dC (.int 0))) dNil) (dCons (dBin fIx (dVar 0) (dC (.int 1))) (dCons (dBin fIx (dVar 0) (dC (.int 2))) (dCons (dBin fIx (dVar 0) (dC (.int 4))) (dCons (dBin fIx (dVar 0) (dC (.int 5))) (dCons (dBin fIx (dVar 0) (dC (.int 6))) dNil))))))) dNext)
  Bd__law_called_3) := ⟨_, rfl⟩
noncomputable def Bd__law_called_2 : DTS := Classical.choose ex_bd__law_called_2
@[simp] theorem bd__law_called_2 : Bd__law_called_2 =
  (dSeq (dIf (dB (dBin fEqS (dVar 1) (dC (.int 3)))) (dRet (dMakeK "Phase" 1 8 5 [(true, 0), (true, 1), (false, 0), (true, 2), (true, 3), (true, 4)] [.int 0] dn_Phase_init_d (dCons (dBin fIx (dVar 0) (dC (.int 0))) dNil) (dCons (dBin fIx (dVar 0) (dC (.int 1))) (dCons (dBin fIx (dVar 0) (dC (.int 2))) (dCons (dBin fIx (dVar 0) (dC (.int 4))) (dCons (dBin fIx (dVar 0) (dC (.int 5))) (dCons (dBin fIx (dVar 0) (dC (.int 6))) dNil))))))) dNext)
  Bd__law_called_3) := Classical.choose_spec ex_bd__law_called_2
theorem ex_bd__law_called_1 : ∃ x : DTS, x =
  (dSeq (dIf (dB (dBin fEqS (dVar 1) (dC (.int 2)))) (dRet (dMakeK "Phase" 1 8 5 [(true, 0), (false, 0), (true, 1), (true, 2), (true, 3), (true, 4)] [.non] dn_Phase_init_d (dCons (dBin fIx (dVar 0) (dC (.int 0))) dNil) (dCons (dBin fIx (dVar 0) (dC (.int 1))) (dCons (dBin fIx (dVar 0) (dC (.int 3))) (dCons (dBin fIx (dVar 0) (dC (.int 4))) (dCons (dBin fIx (dVar 0) (dC (.int 5))) (dCons (dBin fIx (dVar 0) (dC (.int 6))) dNil))))))) dNext)
  Bd__law_called_2) := ⟨_, rfl⟩
noncomputable def Bd__law_called_1 : DTS := Classical.choose ex_bd__law_called_1
@[simp] theorem bd__law_called_1 : Bd__law_called_1 =
  (dSeq (dIf (dB (dBin fEqS (dVar 1) (dC (.int 2)))) (dRet (dMakeK "Phase" 1 8 5 [(true, 0), (false, 0), (true, 1), (true, 2), (true, 3), (true, 4)] [.non] dn_Phase_init_d (dCons (dBin fIx (dVar 0) (dC (.int 0))) dNil) (dCons (dBin fIx (dVar 0) (dC (.int 1))) (dCons (dBin fIx (dVar 0) (dC (.int 3))) (dCons (dBin fIx (dVar 0) (dC (.int 4))) (dCons (dBin fIx (dVar 0) (dC (.int 5))) (dCons (dBin fIx (dVar 0) (dC (.int 6))) dNil))))))) dNext)
  Bd__law_called_2) := Classical.choose_spec ex_bd__law_called_1
theorem ex_bd__law_called : ∃ x : DTS, x =
  (dSeq (dIf (dB (dBin fEqS (dVar 1) (dC (.int 1)))) (dRet (dMakeK "Phase" 1 8 5 [(false, 0), (true, 0), (true, 1), (true, 2), (true, 3), (true, 4)] [.int 1] dn_Phase_init_d (dCons (dBin fIx (dVar 0) (dC (.int 0))) dNil) (dCons (dBin fIx (dVar 0) (dC (.int 2))) (dCons (dBin fIx (dVar 0) (dC (.int 3))) (dCons (dBin fIx (dVar 0) (dC (.int 4))) (dCons (dBin fIx (dVar 0) (dC (.int 5))) (dCons (dBin fIx (dVar 0) (dC (.int 6))) dNil))))))) dNext)
  Bd__law_called_1) := ⟨_, rfl⟩
noncomputable def Bd__law_called : DTS := Classical.choose ex_bd__law_called
theorem bd__law_called : Bd__law_called =
  (dSeq (dIf (dB (dBin fEqS (dVar 1) (dC (.int 1)))) (dRet (dMakeK "Phase" 1 8 5 [(false, 0), (true, 0), (true, 1), (true, 2), (true, 3), (true, 4)] [.int 1] dn_Phase_init_d (dCons (dBin fIx (dVar 0) (dC (.int 0))) dNil) (dCons (dBin fIx (dVar 0) (dC (.int 2))) (dCons (dBin fIx (dVar 0) (dC (.int 3))) (dCons (dBin fIx (dVar 0) (dC (.int 4))) (dCons (dBin fIx (dVar 0) (dC (.int 5))) (dCons (dBin fIx (dVar 0) (dC (.int 6))) dNil))))))) dNext)
  Bd__law_called_1) := Classical.choose_spec ex_bd__law_called
noncomputable def dn__law_called : DSp := dFn 2 2 Bd__law_called
/-! _law_is_int -/
abbrev N__law_is_int : List Str := ["got"]
theorem ex_bd__law_is_int : ∃ x : DTS, x =
  (dRet (dAndV (dCB (cIsi itab) (dCons (dVar 0) (dCons (dC (.ty "int")) dNil))) (dNotV (dCB (cIsi itab) (dCons (dVar 0) (dCons (dC (.ty "bool")) dNil)))))) := ⟨_, rfl⟩
noncomputable def Bd__law_is_int : DTS := Classical.choose ex_bd__law_is_int
theorem bd__law_is_int : Bd__law_is_int =
  (dRet (dAndV (dCB (cIsi itab) (dCons (dVar 0) (dCons (dC (.ty "int")) dNil))) (dNotV (dCB (cIsi itab) (dCons (dVar 0) (dCons (dC (.ty "bool")) dNil)))))) := Classical.choose_spec ex_bd__law_is_int
noncomputable def dn__law_is_int : DSp := dFn 1 1 Bd__law_is_int
/-! _law_same -/
abbrev N__law_same : List Str := ["got", "due", "k"]
theorem ex_bd__law_same_8 : ∃ x : DSp → DTS, x = fun rc =>
  (dRet (dC (.bl true))) := ⟨_, rfl⟩
noncomputable def Bd__law_same_8 : DSp → DTS := Classical.choose ex_bd__law_same_8
@[simp] theorem bd__law_same_8 (rc : DSp) : Bd__law_same_8 rc =
  (dRet (dC (.bl true))) := congrFun (Classical.choose_spec ex_bd__law_same_8) rc
theorem ex_bd__law_same_7 : ∃ x : DSp → DTS, x = fun rc =>
  (dSeq (dFor (iRng1 (dCB cLen (dCons (dVar 1) dNil))) (bName 2) (dIf (dNot (dTr (dCall 2 [] rc (dCons (dBin fIx (dVar 0) (dVar 2)) (dCons (dBin fIx (dVar 1) (dVar 2)) dNil))))) (dRet (dC (.bl false))) dNext))
  (Bd__law_same_8 rc)) := ⟨_, rfl⟩
noncomputable def Bd__law_same_7 : DSp → DTS := Classical.choose ex_bd__law_same_7
@[simp] theorem bd__law_same_7 (rc : DSp) : Bd__law_same_7 rc =
  (dSeq (dFor (iRng1 (dCB cLen (dCons (dVar 1) dNil))) (bName 2) (dIf (dNot (dTr (dCall 2 [] rc (dCons (dBin fIx (dVar 0) (dVar 2)) (dCons (dBin fIx (dVar 1) (dVar 2)) dNil))))) (dRet (dC (.bl false))) dNext))
  (Bd__law_same_8 rc)) := congrFun (Classical.choose_spec ex_bd__law_same_7) rc
theorem ex_bd__law_same_6 : ∃ x : DSp → DTS, x = fun rc =>
  (dSeq (dIf (dB (dBin fNeS (dCB cLen (dCons (dVar 0) dNil)) (dCB cLen (dCons (dVar 1) dNil)))) (dRet (dC (.bl false))) dNext)
  (Bd__law_same_7 rc)) := ⟨_, rfl⟩
noncomputable def Bd__law_same_6 : DSp → DTS := Classical.choose ex_bd__law_same_6
@[simp] theorem bd__law_same_6 (rc : DSp) : Bd__law_same_6 rc =
  (dSeq (dIf (dB (dBin fNeS (dCB cLen (dCons (dVar 0) dNil)) (dCB cLen (dCons (dVar 1) dNil)))) (dRet (dC (.bl false))) dNext)
  (Bd__law_same_7 rc)) := congrFun (Classical.choose_spec ex_bd__law_same_6) rc
theorem ex_bd__law_same_5 : ∃ x : DSp → DTS, x = fun rc =>
  (dSeq (dIf (dAnd (dB (dCB (cIsi itab) (dCons (dVar 1) (dCons (dC (.ty "list")) dNil)))) (dNot (dB (dCB (cIsi itab) (dCons (dVar 0) (dCons (dC (.ty "list")) dNil)))))) (dRet (dC (.bl false))) dNext)
  (Bd__law_same_6 rc)) := ⟨_, rfl⟩
noncomputable def Bd__law_same_5 : DSp → DTS := Classical.choose ex_bd__law_same_5
@[simp] theorem bd__law_same_5 (rc : DSp) : Bd__law_same_5 rc =
  (dSeq (dIf (dAnd (dB (dCB (cIsi itab) (dCons (dVar 1) (dCons (dC (.ty "list")) dNil)))) (dNot (dB (dCB (cIsi itab) (dCons (dVar 0) (dCons (dC (.ty "list")) dNil)))))) (dRet (dC (.bl false))) dNext)
  (Bd__law_same_6 rc)) := congrFun (Classical.choose_spec ex_bd__law_same_5) rc
theorem ex_bd__law_same_4 : ∃ x : DSp → DTS, x = fun rc =>
  (dSeq (dIf (dAnd (dB (dCB (cIsi itab) (dCons (dVar 1) (dCons (dC (.ty "tuple")) dNil)))) (dNot (dB (dCB (cIsi itab) (dCons (dVar 0) (dCons (dC (.ty "tuple")) dNil)))))) (dRet (dC (.bl false))) dNext)
  (Bd__law_same_5 rc)) := ⟨_, rfl⟩
noncomputable def Bd__law_same_4 : DSp → DTS := Classical.choose ex_bd__law_same_4
@[simp] theorem bd__law_same_4 (rc : DSp) : Bd__law_same_4 rc =
  (dSeq (dIf (dAnd (dB (dCB (cIsi itab) (dCons (dVar 1) (dCons (dC (.ty "tuple")) dNil)))) (dNot (dB (dCB (cIsi itab) (dCons (dVar 0) (dCons (dC (.ty "tuple")) dNil)))))) (dRet (dC (.bl false))) dNext)
  (Bd__law_same_5 rc)) := congrFun (Classical.choose_spec ex_bd__law_same_4) rc
theorem ex_bd__law_same_3 : ∃ x : DSp → DTS, x = fun rc =>
  (dSeq (dIf (dB (dCB (cIsi itab) (dCons (dVar 1) (dCons (dC (.ty "str")) dNil)))) (dRet (dAndV (dCB (cIsi itab) (dCons (dVar 0) (dCons (dC (.ty "str")) dNil))) (dBin fEqS (dVar 0) (dVar 1)))) dNext)
  (Bd__law_same_4 rc)) := ⟨_, rfl⟩
noncomputable def Bd__law_same_3 : DSp → DTS := Classical.choose ex_bd__law_same_3
@[simp] theorem bd__law_same_3 (rc : DSp) : Bd__law_same_3 rc =
  (dSeq (dIf (dB (dCB (cIsi itab) (dCons (dVar 1) (dCons (dC (.ty "str")) dNil)))) (dRet (dAndV (dCB (cIsi itab) (dCons (dVar 0) (dCons (dC (.ty "str")) dNil))) (dBin fEqS (dVar 0) (dVar 1)))) dNext)
  (Bd__law_same_4 rc)) := congrFun (Classical.choose_spec ex_bd__law_same_3) rc
theorem ex_bd__law_same_2 : ∃ x : DSp → DTS, x = fun rc =>
  (dSeq (dIf (dB (dCB (cIsi itab) (dCons (dVar 1) (dCons (dC (.ty "int")) dNil)))) (dRet (dAndV (dCall 1 [] dn__law_is_int (dCons (dVar 0) dNil)) (dBin fEqS (dVar 0) (dVar 1)))) dNext)
  (Bd__law_same_3 rc)) := ⟨_, rfl⟩
noncomputable def Bd__law_same_2 : DSp → DTS := Classical.choose ex_bd__law_same_2
@[simp] theorem bd__law_same_2 (rc : DSp) : Bd__law_same_2 rc =
  (dSeq (dIf (dB (dCB (cIsi itab) (dCons (dVar 1) (dCons (dC (.ty "int")) dNil)))) (dRet (dAndV (dCall 1 [] dn__law_is_int (dCons (dVar 0) dNil)) (dBin fEqS (dVar 0) (dVar 1)))) dNext)
  (Bd__law_same_3 rc)) := congrFun (Classical.choose_spec ex_bd__law_same_2) rc
theorem ex_bd__law_same_1 : ∃ x : DSp → DTS, x = fun rc =>
  (dSeq (dIf (dOr (dB (dBin fIs (dVar 1) (dC (.bl true)))) (dB (dBin fIs (dVar 1) (dC (.bl false))))) (dRet (dAndV (dCB (cIsi itab) (dCons (dVar 0) (dCons (dC (.ty "bool")) dNil))) (dBin fEqS (dVar 0) (dVar 1)))) dNext)
  (Bd__law_same_2 rc)) := ⟨_, rfl⟩
noncomputable def Bd__law_same_1 : DSp → DTS := Classical.choose ex_bd__law_same_1
@[simp] theorem bd__law_same_1 (rc : DSp) : Bd__law_same_1 rc =
  (dSeq (dIf (dOr (dB (dBin fIs (dVar 1) (dC (.bl true)))) (dB (dBin fIs (dVar 1) (dC (.bl false))))) (dRet (dAndV (dCB (cIsi itab) (dCons (dVar 0) (dCons (dC (.ty "bool")) dNil))) (dBin fEqS (dVar 0) (dVar 1)))) dNext)
  (Bd__law_same_2 rc)) := congrFun (Classical.choose_spec ex_bd__law_same_1) rc
theorem ex_bd__law_same : ∃ x : DSp → DTS, x = fun rc =>
  (dSeq (dIf (dB (dBin fIs (dVar 1) (dC .non))) (dRet (dBin fIs (dVar 0) (dC .non))) dNext)
  (Bd__law_same_1 rc)) := ⟨_, rfl⟩
noncomputable def Bd__law_same : DSp → DTS := Classical.choose ex_bd__law_same
theorem bd__law_same (rc : DSp) : Bd__law_same rc =
  (dSeq (dIf (dB (dBin fIs (dVar 1) (dC .non))) (dRet (dBin fIs (dVar 0) (dC .non))) dNext)
  (Bd__law_same_1 rc)) := congrFun (Classical.choose_spec ex_bd__law_same) rc
noncomputable def dn__law_same : Nat → DSp
  | 0 => fun _ _ _ _ => False
  | fu + 1 => dFn 2 3 (Bd__law_same (dn__law_same fu))
/-! _law_by_base -/
abbrev N__law_by_base : List Str := ["row", "way", "kinds", "e"]
theorem ex_bd__law_by_base_2 : ∃ x : DTS, x =
  (dRet (dBin (fEqD false) (dVar 2) (dTup (dCons (dC (.bl true)) (dCons (dC (.bl true)) (dCons (dC (.bl false)) (dCons (dC (.bl false)) dNil))))))) := ⟨_, rfl⟩
noncomputable def Bd__law_by_base_2 : DTS := Classical.choose ex_bd__law_by_base_2
@[simp] theorem bd__law_by_base_2 : Bd__law_by_base_2 =
  (dRet (dBin (fEqD false) (dVar 2) (dTup (dCons (dC (.bl true)) (dCons (dC (.bl true)) (dCons (dC (.bl false)) (dCons (dC (.bl false)) dNil))))))) := Classical.choose_spec ex_bd__law_by_base_2
theorem ex_bd__law_by_base_1 : ∃ x : DTS, x =
  (dSeq (dTryAs tt_LightsError 3 (dExp (dCall 2 [] dn__law_called (dCons (dVar 0) (dCons (dVar 1) dNil)))) (fun p dd x => (dAsg 2 (dTup (dCons (dCo (coR (cIsiX etab p dd x)) (dCons (dVar 3) (dCons (dC (.cls "BadPhase")) dNil))) (dCons (dCo (coR (cIsiX etab p dd x)) (dCons (dVar 3) (dCons (dC (.ty "ValueError")) dNil))) (dCons (dCo (coR (cIsiX etab p dd x)) (dCons (dVar 3) (dCons (dC (.cls "BadBook")) dNil))) (dCons (dCo (coR (cIsiX etab p dd x)) (dCons (dVar 3) (dCons (dC (.cls "BadLane")) dNil))) dNil))))))))
  Bd__law_by_base_2) := ⟨_, rfl⟩
noncomputable def Bd__law_by_base_1 : DTS := Classical.choose ex_bd__law_by_base_1
@[simp] theorem bd__law_by_base_1 : Bd__law_by_base_1 =
  (dSeq (dTryAs tt_LightsError 3 (dExp (dCall 2 [] dn__law_called (dCons (dVar 0) (dCons (dVar 1) dNil)))) (fun p dd x => (dAsg 2 (dTup (dCons (dCo (coR (cIsiX etab p dd x)) (dCons (dVar 3) (dCons (dC (.cls "BadPhase")) dNil))) (dCons (dCo (coR (cIsiX etab p dd x)) (dCons (dVar 3) (dCons (dC (.ty "ValueError")) dNil))) (dCons (dCo (coR (cIsiX etab p dd x)) (dCons (dVar 3) (dCons (dC (.cls "BadBook")) dNil))) (dCons (dCo (coR (cIsiX etab p dd x)) (dCons (dVar 3) (dCons (dC (.cls "BadLane")) dNil))) dNil))))))))
  Bd__law_by_base_2) := Classical.choose_spec ex_bd__law_by_base_1
theorem ex_bd__law_by_base : ∃ x : DTS, x =
  (dSeq (dAsg 2 (dTup dNil))
  Bd__law_by_base_1) := ⟨_, rfl⟩
noncomputable def Bd__law_by_base : DTS := Classical.choose ex_bd__law_by_base
theorem bd__law_by_base : Bd__law_by_base =
  (dSeq (dAsg 2 (dTup dNil))
  Bd__law_by_base_1) := Classical.choose_spec ex_bd__law_by_base
noncomputable def dn__law_by_base : DSp := dFn 2 4 Bd__law_by_base
/-! _law_told -/
abbrev N__law_told : List Str := ["phase"]
theorem ex_bd__law_told : ∃ x : DTS, x =
  (dRet (dTup (dCons (dFld ["Phase"] "green" (dVar 0)) (dCons (dFld ["Phase"] "least" (dVar 0)) (dCons (dFld ["Phase"] "most" (dVar 0)) (dCons (dFld ["Phase"] "pause" (dVar 0)) (dCons (dFld ["Phase"] "holds" (dVar 0)) (dCons (dFld ["Phase"] "calls" (dVar 0)) (dCons (dFld ["Phase"] "yields" (dVar 0)) dNil))))))))) := ⟨_, rfl⟩
noncomputable def Bd__law_told : DTS := Classical.choose ex_bd__law_told
theorem bd__law_told : Bd__law_told =
  (dRet (dTup (dCons (dFld ["Phase"] "green" (dVar 0)) (dCons (dFld ["Phase"] "least" (dVar 0)) (dCons (dFld ["Phase"] "most" (dVar 0)) (dCons (dFld ["Phase"] "pause" (dVar 0)) (dCons (dFld ["Phase"] "holds" (dVar 0)) (dCons (dFld ["Phase"] "calls" (dVar 0)) (dCons (dFld ["Phase"] "yields" (dVar 0)) dNil))))))))) := Classical.choose_spec ex_bd__law_told
noncomputable def dn__law_told : DSp := dFn 1 1 Bd__law_told
/-! _law_down -/
abbrev N__law_down : List Str := ["row", "y"]
theorem ex_bd__law_down : ∃ x : DTS, x =
  (dRet (dLc (iRng1 (dC (.int 6))) (bName 1) (dB (dBin (fIn false) (dBin fSub (dC (.int 5)) (dVar 1)) (dVar 0))) (dBin fSub (dC (.int 5)) (dVar 1)) [1] toLst)) := ⟨_, rfl⟩
noncomputable def Bd__law_down : DTS := Classical.choose ex_bd__law_down
theorem bd__law_down : Bd__law_down =
  (dRet (dLc (iRng1 (dC (.int 6))) (bName 1) (dB (dBin (fIn false) (dBin fSub (dC (.int 5)) (dVar 1)) (dVar 0))) (dBin fSub (dC (.int 5)) (dVar 1)) [1] toLst)) := Classical.choose_spec ex_bd__law_down
noncomputable def dn__law_down : DSp := dFn 1 2 Bd__law_down
/-! _law_other -/
abbrev N__law_other : List Str := ["due", "part", "x", "row", "y"]
theorem ex_bd__law_other_2 : ∃ x : DTS, x =
  (dRet (dVar 3)) := ⟨_, rfl⟩
noncomputable def Bd__law_other_2 : DTS := Classical.choose ex_bd__law_other_2
@[simp] theorem bd__law_other_2 : Bd__law_other_2 =
  (dRet (dVar 3)) := Classical.choose_spec ex_bd__law_other_2
theorem ex_bd__law_other_1 : ∃ x : DTS, x =
  (dSeq (dIf (dOr (dB (dBin fEqS (dVar 1) (dC (.int 0)))) (dOr (dB (dBin fEqS (dVar 1) (dC (.int 4)))) (dB (dBin fEqS (dVar 1) (dC (.int 5)))))) (dSub (dVar 3) (dVar 1) (dLc (iRng1 (dC (.int 6))) (bName 4) (dB (dBin fNeS (dBin (fIn false) (dVar 4) (dBin fIx (dVar 0) (dVar 1))) (dBin fEqS (dVar 4) (dVar 2)))) (dVar 4) [4] toLst)) (dIf (dAnd (dB (dBin fEqS (dVar 1) (dC (.int 1)))) (dB (dBin fGt (dBin fIx (dVar 0) (dC (.int 1))) (dC (.int 1))))) (dSub (dVar 3) (dC (.int 1)) (dBin fSub (dBin fIx (dVar 0) (dC (.int 1))) (dC (.int 1)))) (dIf (dAnd (dB (dBin fEqS (dVar 1) (dC (.int 1)))) (dB (dBin fLt (dBin fIx (dVar 0) (dC (.int 1))) (dBin fIx (dVar 0) (dC (.int 2)))))) (dSub (dVar 3) (dC (.int 1)) (dBin fAdd (dBin fIx (dVar 0) (dC (.int 1))) (dC (.int 1)))) (dIf (dAnd (dB (dBin fEqS (dVar 1) (dC (.int 2)))) (dB (dBin fLt (dBin fIx (dVar 0) (dC (.int 2))) (dC (.int 12))))) (dSub (dVar 3) (dC (.int 2)) (dBin fAdd (dBin fIx (dVar 0) (dC (.int 2))) (dC (.int 1)))) (dIf (dAnd (dB (dBin fEqS (dVar 1) (dC (.int 2)))) (dB (dBin fLt (dBin fIx (dVar 0) (dC (.int 1))) (dBin fIx (dVar 0) (dC (.int 2)))))) (dSub (dVar 3) (dC (.int 2)) (dBin fSub (dBin fIx (dVar 0) (dC (.int 2))) (dC (.int 1)))) (dIf (dB (dBin fEqS (dVar 1) (dC (.int 6)))) (dSub (dVar 3) (dC (.int 6)) (dNotV (dBin fIx (dVar 0) (dC (.int 6))))) (dSub (dVar 3) (dC (.int 3)) (dBin fMod (dCB cInt (dCons (dBin fAdd (dBin fIx (dVar 0) (dC (.int 3))) (dC (.int 1))) dNil)) (dC (.int 10))))))))))
  Bd__law_other_2) := ⟨_, rfl⟩
noncomputable def Bd__law_other_1 : DTS := Classical.choose ex_bd__law_other_1
@[simp] theorem bd__law_other_1 : Bd__law_other_1 =
  (dSeq (dIf (dOr (dB (dBin fEqS (dVar 1) (dC (.int 0)))) (dOr (dB (dBin fEqS (dVar 1) (dC (.int 4)))) (dB (dBin fEqS (dVar 1) (dC (.int 5)))))) (dSub (dVar 3) (dVar 1) (dLc (iRng1 (dC (.int 6))) (bName 4) (dB (dBin fNeS (dBin (fIn false) (dVar 4) (dBin fIx (dVar 0) (dVar 1))) (dBin fEqS (dVar 4) (dVar 2)))) (dVar 4) [4] toLst)) (dIf (dAnd (dB (dBin fEqS (dVar 1) (dC (.int 1)))) (dB (dBin fGt (dBin fIx (dVar 0) (dC (.int 1))) (dC (.int 1))))) (dSub (dVar 3) (dC (.int 1)) (dBin fSub (dBin fIx (dVar 0) (dC (.int 1))) (dC (.int 1)))) (dIf (dAnd (dB (dBin fEqS (dVar 1) (dC (.int 1)))) (dB (dBin fLt (dBin fIx (dVar 0) (dC (.int 1))) (dBin fIx (dVar 0) (dC (.int 2)))))) (dSub (dVar 3) (dC (.int 1)) (dBin fAdd (dBin fIx (dVar 0) (dC (.int 1))) (dC (.int 1)))) (dIf (dAnd (dB (dBin fEqS (dVar 1) (dC (.int 2)))) (dB (dBin fLt (dBin fIx (dVar 0) (dC (.int 2))) (dC (.int 12))))) (dSub (dVar 3) (dC (.int 2)) (dBin fAdd (dBin fIx (dVar 0) (dC (.int 2))) (dC (.int 1)))) (dIf (dAnd (dB (dBin fEqS (dVar 1) (dC (.int 2)))) (dB (dBin fLt (dBin fIx (dVar 0) (dC (.int 1))) (dBin fIx (dVar 0) (dC (.int 2)))))) (dSub (dVar 3) (dC (.int 2)) (dBin fSub (dBin fIx (dVar 0) (dC (.int 2))) (dC (.int 1)))) (dIf (dB (dBin fEqS (dVar 1) (dC (.int 6)))) (dSub (dVar 3) (dC (.int 6)) (dNotV (dBin fIx (dVar 0) (dC (.int 6))))) (dSub (dVar 3) (dC (.int 3)) (dBin fMod (dCB cInt (dCons (dBin fAdd (dBin fIx (dVar 0) (dC (.int 3))) (dC (.int 1))) dNil)) (dC (.int 10))))))))))
  Bd__law_other_2) := Classical.choose_spec ex_bd__law_other_1
theorem ex_bd__law_other : ∃ x : DTS, x =
  (dSeq (dAsg 3 (dCB cListM (dCons (dVar 0) dNil)))
  Bd__law_other_1) := ⟨_, rfl⟩
noncomputable def Bd__law_other : DTS := Classical.choose ex_bd__law_other
theorem bd__law_other : Bd__law_other =
  (dSeq (dAsg 3 (dCB cListM (dCons (dVar 0) dNil)))
  Bd__law_other_1) := Classical.choose_spec ex_bd__law_other
noncomputable def dn__law_other : DSp := dFn 3 5 Bd__law_other
/-! Phase.__eq__ -/
abbrev N_Phase_eq_d : List Str := ["self", "other"]
theorem ex_bd_Phase_eq_d : ∃ x : DTS, x =
  (dRet (dAndV (dCB (cIsi itab) (dCons (dVar 1) (dCons (dC (.cls "Phase")) dNil))) (dAndV (dBin (fEqD false) (dFld ["Phase"] "green" (dVar 0)) (dFld ["Phase"] "green" (dVar 1))) (dAndV (dBin fEqS (dFld ["Phase"] "least" (dVar 0)) (dFld ["Phase"] "least" (dVar 1))) (dAndV (dBin fEqS (dFld ["Phase"] "most" (dVar 0)) (dFld ["Phase"] "most" (dVar 1))) (dAndV (dBin fEqS (dFld ["Phase"] "pause" (dVar 0)) (dFld ["Phase"] "pause" (dVar 1))) (dAndV (dBin (fEqD false) (dFld ["Phase"] "holds" (dVar 0)) (dFld ["Phase"] "holds" (dVar 1))) (dAndV (dBin (fEqD false) (dFld ["Phase"] "calls" (dVar 0)) (dFld ["Phase"] "calls" (dVar 1))) (dBin fEqS (dFld ["Phase"] "yields" (dVar 0)) (dFld ["Phase"] "yields" (dVar 1))))))))))) := ⟨_, rfl⟩
noncomputable def Bd_Phase_eq_d : DTS := Classical.choose ex_bd_Phase_eq_d
theorem bd_Phase_eq_d : Bd_Phase_eq_d =
  (dRet (dAndV (dCB (cIsi itab) (dCons (dVar 1) (dCons (dC (.cls "Phase")) dNil))) (dAndV (dBin (fEqD false) (dFld ["Phase"] "green" (dVar 0)) (dFld ["Phase"] "green" (dVar 1))) (dAndV (dBin fEqS (dFld ["Phase"] "least" (dVar 0)) (dFld ["Phase"] "least" (dVar 1))) (dAndV (dBin fEqS (dFld ["Phase"] "most" (dVar 0)) (dFld ["Phase"] "most" (dVar 1))) (dAndV (dBin fEqS (dFld ["Phase"] "pause" (dVar 0)) (dFld ["Phase"] "pause" (dVar 1))) (dAndV (dBin (fEqD false) (dFld ["Phase"] "holds" (dVar 0)) (dFld ["Phase"] "holds" (dVar 1))) (dAndV (dBin (fEqD false) (dFld ["Phase"] "calls" (dVar 0)) (dFld ["Phase"] "calls" (dVar 1))) (dBin fEqS (dFld ["Phase"] "yields" (dVar 0)) (dFld ["Phase"] "yields" (dVar 1))))))))))) := Classical.choose_spec ex_bd_Phase_eq_d
noncomputable def dn_Phase_eq_d : DSp := dFn 2 2 Bd_Phase_eq_d
/-! _law_equal_right -/
abbrev N__law_equal_right : List Str := ["made", "due", "part", "x", "twin", "other"]
theorem ex_bd__law_equal_right_3 : ∃ x : DTS, x =
  (dRet (dAndV (dBin fIs (dBin (fOr fEqS (fOwn [("Phase", 2, [], dn_Phase_eq_d)])) (dVar 0) (dVar 5)) (dC (.bl false))) (dBin fIs (dBin (fOr fEqS (fOwn [("Phase", 2, [], dn_Phase_eq_d)])) (dVar 5) (dVar 0)) (dC (.bl false))))) := ⟨_, rfl⟩
noncomputable def Bd__law_equal_right_3 : DTS := Classical.choose ex_bd__law_equal_right_3
@[simp] theorem bd__law_equal_right_3 : Bd__law_equal_right_3 =
  (dRet (dAndV (dBin fIs (dBin (fOr fEqS (fOwn [("Phase", 2, [], dn_Phase_eq_d)])) (dVar 0) (dVar 5)) (dC (.bl false))) (dBin fIs (dBin (fOr fEqS (fOwn [("Phase", 2, [], dn_Phase_eq_d)])) (dVar 5) (dVar 0)) (dC (.bl false))))) := Classical.choose_spec ex_bd__law_equal_right_3
theorem ex_bd__law_equal_right_2 : ∃ x : DTS, x =
  (dSeq (dIf (dOr (dB (dBin fIsNot (dBin (fOr fEqS (fOwn [("Phase", 2, [], dn_Phase_eq_d)])) (dVar 0) (dVar 4)) (dC (.bl true)))) (dB (dBin fIsNot (dBin (fOr fEqS (fOwn [("Phase", 2, [], dn_Phase_eq_d)])) (dVar 4) (dVar 0)) (dC (.bl true))))) (dRet (dC (.bl false))) dNext)
  Bd__law_equal_right_3) := ⟨_, rfl⟩
noncomputable def Bd__law_equal_right_2 : DTS := Classical.choose ex_bd__law_equal_right_2
@[simp] theorem bd__law_equal_right_2 : Bd__law_equal_right_2 =
  (dSeq (dIf (dOr (dB (dBin fIsNot (dBin (fOr fEqS (fOwn [("Phase", 2, [], dn_Phase_eq_d)])) (dVar 0) (dVar 4)) (dC (.bl true)))) (dB (dBin fIsNot (dBin (fOr fEqS (fOwn [("Phase", 2, [], dn_Phase_eq_d)])) (dVar 4) (dVar 0)) (dC (.bl true))))) (dRet (dC (.bl false))) dNext)
  Bd__law_equal_right_3) := Classical.choose_spec ex_bd__law_equal_right_2
theorem ex_bd__law_equal_right_1 : ∃ x : DTS, x =
  (dSeq (dAsg 5 (dCall 2 [] dn__law_called (dCons (dCall 3 [] dn__law_other (dCons (dVar 1) (dCons (dVar 2) (dCons (dVar 3) dNil)))) (dCons (dC (.int 0)) dNil))))
  Bd__law_equal_right_2) := ⟨_, rfl⟩
noncomputable def Bd__law_equal_right_1 : DTS := Classical.choose ex_bd__law_equal_right_1
@[simp] theorem bd__law_equal_right_1 : Bd__law_equal_right_1 =
  (dSeq (dAsg 5 (dCall 2 [] dn__law_called (dCons (dCall 3 [] dn__law_other (dCons (dVar 1) (dCons (dVar 2) (dCons (dVar 3) dNil)))) (dCons (dC (.int 0)) dNil))))
  Bd__law_equal_right_2) := Classical.choose_spec ex_bd__law_equal_right_1
theorem ex_bd__law_equal_right : ∃ x : DTS, x =
  (dSeq (dAsg 4 (dCall 2 [] dn__law_called (dCons (dLst (dCons (dCall 1 [] dn__law_down (dCons (dBin fIx (dVar 1) (dC (.int 0))) dNil)) (dCons (dBin fIx (dVar 1) (dC (.int 1))) (dCons (dBin fIx (dVar 1) (dC (.int 2))) (dCons (dBin fIx (dVar 1) (dC (.int 3))) (dCons (dCall 1 [] dn__law_down (dCons (dBin fIx (dVar 1) (dC (.int 4))) dNil)) (dCons (dCall 1 [] dn__law_down (dCons (dBin fIx (dVar 1) (dC (.int 5))) dNil)) (dCons (dBin fIx (dVar 1) (dC (.int 6))) dNil)))))))) (dCons (dC (.int 0)) dNil))))
  Bd__law_equal_right_1) := ⟨_, rfl⟩
noncomputable def Bd__law_equal_right : DTS := Classical.choose ex_bd__law_equal_right
theorem bd__law_equal_right : Bd__law_equal_right =
  (dSeq (dAsg 4 (dCall 2 [] dn__law_called (dCons (dLst (dCons (dCall 1 [] dn__law_down (dCons (dBin fIx (dVar 1) (dC (.int 0))) dNil)) (dCons (dBin fIx (dVar 1) (dC (.int 1))) (dCons (dBin fIx (dVar 1) (dC (.int 2))) (dCons (dBin fIx (dVar 1) (dC (.int 3))) (dCons (dCall 1 [] dn__law_down (dCons (dBin fIx (dVar 1) (dC (.int 4))) dNil)) (dCons (dCall 1 [] dn__law_down (dCons (dBin fIx (dVar 1) (dC (.int 5))) dNil)) (dCons (dBin fIx (dVar 1) (dC (.int 6))) dNil)))))))) (dCons (dC (.int 0)) dNil))))
  Bd__law_equal_right_1) := Classical.choose_spec ex_bd__law_equal_right
noncomputable def dn__law_equal_right : DSp := dFn 4 6 Bd__law_equal_right
/-! _law_asked -/
abbrev N__law_asked : List Str := ["args", "way", "lists", "part", "x", "filled", "wrong", "row", "refused", "found", "made", "e", "upper", "due", "k"]
theorem ex_bd__law_asked_15 : ∃ x : DTS, x =
  (dRet (dAndV (dCall 2 [] (dn__law_same 4) (dCons (dCall 1 [] dn__law_told (dCons (dVar 10) dNil)) (dCons (dVar 13) dNil))) (dCall 4 [] dn__law_equal_right (dCons (dVar 10) (dCons (dVar 13) (dCons (dVar 3) (dCons (dVar 4) dNil))))))) := ⟨_, rfl⟩
noncomputable def Bd__law_asked_15 : DTS := Classical.choose ex_bd__law_asked_15
@[simp] theorem bd__law_asked_15 : Bd__law_asked_15 =
  (dRet (dAndV (dCall 2 [] (dn__law_same 4) (dCons (dCall 1 [] dn__law_told (dCons (dVar 10) dNil)) (dCons (dVar 13) dNil))) (dCall 4 [] dn__law_equal_right (dCons (dVar 10) (dCons (dVar 13) (dCons (dVar 3) (dCons (dVar 4) dNil))))))) := Classical.choose_spec ex_bd__law_asked_15
theorem ex_bd__law_asked_14 : ∃ x : DTS, x =
  (dSeq (dIf (dTr (dVar 2)) (dFor (iAny its (dTup (dCons (dC (.int 0)) (dCons (dC (.int 4)) (dCons (dC (.int 5)) dNil))))) (bName 14) (dSeq (dExp (dApp (dBin fIx (dVar 7) (dVar 14)) (dVar 4)))
  (dExp (dRevIn (dBin fIx (dVar 7) (dVar 14)))))) dNext)
  Bd__law_asked_15) := ⟨_, rfl⟩
noncomputable def Bd__law_asked_14 : DTS := Classical.choose ex_bd__law_asked_14
@[simp] theorem bd__law_asked_14 : Bd__law_asked_14 =
  (dSeq (dIf (dTr (dVar 2)) (dFor (iAny its (dTup (dCons (dC (.int 0)) (dCons (dC (.int 4)) (dCons (dC (.int 5)) dNil))))) (bName 14) (dSeq (dExp (dApp (dBin fIx (dVar 7) (dVar 14)) (dVar 4)))
  (dExp (dRevIn (dBin fIx (dVar 7) (dVar 14)))))) dNext)
  Bd__law_asked_15) := Classical.choose_spec ex_bd__law_asked_14
theorem ex_bd__law_asked_13 : ∃ x : DTS, x =
  (dSeq (dIf (dNot (dTr (dCall 2 [] (dn__law_same 4) (dCons (dCall 1 [] dn__law_told (dCons (dVar 10) dNil)) (dCons (dVar 13) dNil))))) (dRet (dC (.bl false))) dNext)
  Bd__law_asked_14) := ⟨_, rfl⟩
noncomputable def Bd__law_asked_13 : DTS := Classical.choose ex_bd__law_asked_13
@[simp] theorem bd__law_asked_13 : Bd__law_asked_13 =
  (dSeq (dIf (dNot (dTr (dCall 2 [] (dn__law_same 4) (dCons (dCall 1 [] dn__law_told (dCons (dVar 10) dNil)) (dCons (dVar 13) dNil))))) (dRet (dC (.bl false))) dNext)
  Bd__law_asked_14) := Classical.choose_spec ex_bd__law_asked_13
theorem ex_bd__law_asked_12 : ∃ x : DTS, x =
  (dSeq (dAsg 13 (dTup (dCons (dCall 1 [] dn__law_up (dCons (dBin fIx (dVar 5) (dC (.int 0))) dNil)) (dCons (dBin fIx (dVar 5) (dC (.int 1))) (dCons (dVar 12) (dCons (dBin fIx (dVar 5) (dC (.int 3))) (dCons (dCall 1 [] dn__law_up (dCons (dBin fIx (dVar 5) (dC (.int 4))) dNil)) (dCons (dCall 1 [] dn__law_up (dCons (dBin fIx (dVar 5) (dC (.int 5))) dNil)) (dCons (dBin fIx (dVar 5) (dC (.int 6))) dNil)))))))))
  Bd__law_asked_13) := ⟨_, rfl⟩
noncomputable def Bd__law_asked_12 : DTS := Classical.choose ex_bd__law_asked_12
@[simp] theorem bd__law_asked_12 : Bd__law_asked_12 =
  (dSeq (dAsg 13 (dTup (dCons (dCall 1 [] dn__law_up (dCons (dBin fIx (dVar 5) (dC (.int 0))) dNil)) (dCons (dBin fIx (dVar 5) (dC (.int 1))) (dCons (dVar 12) (dCons (dBin fIx (dVar 5) (dC (.int 3))) (dCons (dCall 1 [] dn__law_up (dCons (dBin fIx (dVar 5) (dC (.int 4))) dNil)) (dCons (dCall 1 [] dn__law_up (dCons (dBin fIx (dVar 5) (dC (.int 5))) dNil)) (dCons (dBin fIx (dVar 5) (dC (.int 6))) dNil)))))))))
  Bd__law_asked_13) := Classical.choose_spec ex_bd__law_asked_12
theorem ex_bd__law_asked_11 : ∃ x : DTS, x =
  (dSeq (dIf (dB (dBin fIs (dVar 12) (dC .non))) (dAsg 12 (dBin fIx (dVar 5) (dC (.int 1)))) dNext)
  Bd__law_asked_12) := ⟨_, rfl⟩
noncomputable def Bd__law_asked_11 : DTS := Classical.choose ex_bd__law_asked_11
@[simp] theorem bd__law_asked_11 : Bd__law_asked_11 =
  (dSeq (dIf (dB (dBin fIs (dVar 12) (dC .non))) (dAsg 12 (dBin fIx (dVar 5) (dC (.int 1)))) dNext)
  Bd__law_asked_12) := Classical.choose_spec ex_bd__law_asked_11
theorem ex_bd__law_asked_10 : ∃ x : DTS, x =
  (dSeq (dAsg 12 (dBin fIx (dVar 5) (dC (.int 2))))
  Bd__law_asked_11) := ⟨_, rfl⟩
noncomputable def Bd__law_asked_10 : DTS := Classical.choose ex_bd__law_asked_10
@[simp] theorem bd__law_asked_10 : Bd__law_asked_10 =
  (dSeq (dAsg 12 (dBin fIx (dVar 5) (dC (.int 2))))
  Bd__law_asked_11) := Classical.choose_spec ex_bd__law_asked_10
theorem ex_bd__law_asked_9 : ∃ x : DTS, x =
  (dSeq (dIf (dB (dVar 8)) (dRet (dC (.bl false))) dNext)
  Bd__law_asked_10) := ⟨_, rfl⟩
noncomputable def Bd__law_asked_9 : DTS := Classical.choose ex_bd__law_asked_9
@[simp] theorem bd__law_asked_9 : Bd__law_asked_9 =
  (dSeq (dIf (dB (dVar 8)) (dRet (dC (.bl false))) dNext)
  Bd__law_asked_10) := Classical.choose_spec ex_bd__law_asked_9
theorem ex_bd__law_asked_8 : ∃ x : DTS, x =
  (dSeq (dIf (dB (dBin fIsNot (dVar 6) (dC .non))) (dRet (dAndV (dVar 8) (dAndV (dCall 2 [] (dn__law_same 4) (dCons (dVar 9) (dCons (dVar 6) dNil))) (dCall 2 [] dn__law_by_base (dCons (dVar 7) (dCons (dVar 1) dNil)))))) dNext)
  Bd__law_asked_9) := ⟨_, rfl⟩
noncomputable def Bd__law_asked_8 : DTS := Classical.choose ex_bd__law_asked_8
@[simp] theorem bd__law_asked_8 : Bd__law_asked_8 =
  (dSeq (dIf (dB (dBin fIsNot (dVar 6) (dC .non))) (dRet (dAndV (dVar 8) (dAndV (dCall 2 [] (dn__law_same 4) (dCons (dVar 9) (dCons (dVar 6) dNil))) (dCall 2 [] dn__law_by_base (dCons (dVar 7) (dCons (dVar 1) dNil)))))) dNext)
  Bd__law_asked_9) := Classical.choose_spec ex_bd__law_asked_8
theorem ex_bd__law_asked_7 : ∃ x : DTS, x =
  (dSeq (dIf (dNot (dTr (dCall 2 [] (dn__law_same 4) (dCons (dVar 7) (dCons (dCall 2 [] dn__law_handed (dCons (dVar 0) (dCons (dVar 2) dNil))) dNil))))) (dRet (dC (.bl false))) dNext)
  Bd__law_asked_8) := ⟨_, rfl⟩
noncomputable def Bd__law_asked_7 : DTS := Classical.choose ex_bd__law_asked_7
@[simp] theorem bd__law_asked_7 : Bd__law_asked_7 =
  (dSeq (dIf (dNot (dTr (dCall 2 [] (dn__law_same 4) (dCons (dVar 7) (dCons (dCall 2 [] dn__law_handed (dCons (dVar 0) (dCons (dVar 2) dNil))) dNil))))) (dRet (dC (.bl false))) dNext)
  Bd__law_asked_8) := Classical.choose_spec ex_bd__law_asked_7
theorem ex_bd__law_asked_6 : ∃ x : DTS, x =
  (dSeq (dTryAs tt_BadPhase 11 (dAsg 10 (dCall 2 [] dn__law_called (dCons (dVar 7) (dCons (dVar 1) dNil)))) (fun p dd x => (dSeq (dAsg 8 (dC (.bl true)))
  (dAsg 9 (dXF p dd x ["BadPhase"] "part" (dVar 11))))))
  Bd__law_asked_7) := ⟨_, rfl⟩
noncomputable def Bd__law_asked_6 : DTS := Classical.choose ex_bd__law_asked_6
@[simp] theorem bd__law_asked_6 : Bd__law_asked_6 =
  (dSeq (dTryAs tt_BadPhase 11 (dAsg 10 (dCall 2 [] dn__law_called (dCons (dVar 7) (dCons (dVar 1) dNil)))) (fun p dd x => (dSeq (dAsg 8 (dC (.bl true)))
  (dAsg 9 (dXF p dd x ["BadPhase"] "part" (dVar 11))))))
  Bd__law_asked_7) := Classical.choose_spec ex_bd__law_asked_6
theorem ex_bd__law_asked_5 : ∃ x : DTS, x =
  (dSeq (dAsg 10 (dC .non))
  Bd__law_asked_6) := ⟨_, rfl⟩
noncomputable def Bd__law_asked_5 : DTS := Classical.choose ex_bd__law_asked_5
@[simp] theorem bd__law_asked_5 : Bd__law_asked_5 =
  (dSeq (dAsg 10 (dC .non))
  Bd__law_asked_6) := Classical.choose_spec ex_bd__law_asked_5
theorem ex_bd__law_asked_4 : ∃ x : DTS, x =
  (dSeq (dAsg 9 (dC .non))
  Bd__law_asked_5) := ⟨_, rfl⟩
noncomputable def Bd__law_asked_4 : DTS := Classical.choose ex_bd__law_asked_4
@[simp] theorem bd__law_asked_4 : Bd__law_asked_4 =
  (dSeq (dAsg 9 (dC .non))
  Bd__law_asked_5) := Classical.choose_spec ex_bd__law_asked_4
theorem ex_bd__law_asked_3 : ∃ x : DTS, x =
  (dSeq (dAsg 8 (dC (.bl false)))
  Bd__law_asked_4) := ⟨_, rfl⟩
noncomputable def Bd__law_asked_3 : DTS := Classical.choose ex_bd__law_asked_3
@[simp] theorem bd__law_asked_3 : Bd__law_asked_3 =
  (dSeq (dAsg 8 (dC (.bl false)))
  Bd__law_asked_4) := Classical.choose_spec ex_bd__law_asked_3
theorem ex_bd__law_asked_2 : ∃ x : DTS, x =
  (dSeq (dAsg 7 (dCall 2 [] dn__law_handed (dCons (dVar 0) (dCons (dVar 2) dNil))))
  Bd__law_asked_3) := ⟨_, rfl⟩
noncomputable def Bd__law_asked_2 : DTS := Classical.choose ex_bd__law_asked_2
@[simp] theorem bd__law_asked_2 : Bd__law_asked_2 =
  (dSeq (dAsg 7 (dCall 2 [] dn__law_handed (dCons (dVar 0) (dCons (dVar 2) dNil))))
  Bd__law_asked_3) := Classical.choose_spec ex_bd__law_asked_2
theorem ex_bd__law_asked_1 : ∃ x : DTS, x =
  (dSeq (dAsg 6 (dCall 1 [] dn__law_wrong (dCons (dVar 5) dNil)))
  Bd__law_asked_2) := ⟨_, rfl⟩
noncomputable def Bd__law_asked_1 : DTS := Classical.choose ex_bd__law_asked_1
@[simp] theorem bd__law_asked_1 : Bd__law_asked_1 =
  (dSeq (dAsg 6 (dCall 1 [] dn__law_wrong (dCons (dVar 5) dNil)))
  Bd__law_asked_2) := Classical.choose_spec ex_bd__law_asked_1
theorem ex_bd__law_asked : ∃ x : DTS, x =
  (dSeq (dAsg 5 (dCall 2 [] dn__law_filled (dCons (dVar 0) (dCons (dVar 1) dNil))))
  Bd__law_asked_1) := ⟨_, rfl⟩
noncomputable def Bd__law_asked : DTS := Classical.choose ex_bd__law_asked
theorem bd__law_asked : Bd__law_asked =
  (dSeq (dAsg 5 (dCall 2 [] dn__law_filled (dCons (dVar 0) (dCons (dVar 1) dNil))))
  Bd__law_asked_1) := Classical.choose_spec ex_bd__law_asked
noncomputable def dn__law_asked : DSp := dFn 5 15 Bd__law_asked
/-! _law_mended -/
abbrev N__law_mended : List Str := ["args", "lower", "upper", "calm"]
theorem ex_bd__law_mended_4 : ∃ x : DTS, x =
  (dRet (dLst (dCons (dCall 1 [] dn__law_down (dCons (dBin fIx (dVar 0) (dC (.int 0))) dNil)) (dCons (dVar 1) (dCons (dVar 2) (dCons (dVar 3) (dCons (dCall 1 [] dn__law_down (dCons (dBin fIx (dVar 0) (dC (.int 4))) dNil)) (dCons (dCall 1 [] dn__law_down (dCons (dBin fIx (dVar 0) (dC (.int 5))) dNil)) (dCons (dBin fIx (dVar 0) (dC (.int 6))) dNil))))))))) := ⟨_, rfl⟩
noncomputable def Bd__law_mended_4 : DTS := Classical.choose ex_bd__law_mended_4
@[simp] theorem bd__law_mended_4 : Bd__law_mended_4 =
  (dRet (dLst (dCons (dCall 1 [] dn__law_down (dCons (dBin fIx (dVar 0) (dC (.int 0))) dNil)) (dCons (dVar 1) (dCons (dVar 2) (dCons (dVar 3) (dCons (dCall 1 [] dn__law_down (dCons (dBin fIx (dVar 0) (dC (.int 4))) dNil)) (dCons (dCall 1 [] dn__law_down (dCons (dBin fIx (dVar 0) (dC (.int 5))) dNil)) (dCons (dBin fIx (dVar 0) (dC (.int 6))) dNil))))))))) := Classical.choose_spec ex_bd__law_mended_4
theorem ex_bd__law_mended_3 : ∃ x : DTS, x =
  (dSeq (dAsg 3 (dCB cMax2 (dCons (dC (.int 0)) (dCons (dCB cMin2 (dCons (dC (.int 9)) (dCons (dBin fIx (dVar 0) (dC (.int 3))) dNil))) dNil))))
  Bd__law_mended_4) := ⟨_, rfl⟩
noncomputable def Bd__law_mended_3 : DTS := Classical.choose ex_bd__law_mended_3
@[simp] theorem bd__law_mended_3 : Bd__law_mended_3 =
  (dSeq (dAsg 3 (dCB cMax2 (dCons (dC (.int 0)) (dCons (dCB cMin2 (dCons (dC (.int 9)) (dCons (dBin fIx (dVar 0) (dC (.int 3))) dNil))) dNil))))
  Bd__law_mended_4) := Classical.choose_spec ex_bd__law_mended_3
theorem ex_bd__law_mended_2 : ∃ x : DTS, x =
  (dSeq (dIf (dB (dBin fIsNot (dVar 2) (dC .non))) (dAsg 2 (dCB cMax2 (dCons (dVar 1) (dCons (dCB cMin2 (dCons (dC (.int 12)) (dCons (dVar 2) dNil))) dNil)))) dNext)
  Bd__law_mended_3) := ⟨_, rfl⟩
noncomputable def Bd__law_mended_2 : DTS := Classical.choose ex_bd__law_mended_2
@[simp] theorem bd__law_mended_2 : Bd__law_mended_2 =
  (dSeq (dIf (dB (dBin fIsNot (dVar 2) (dC .non))) (dAsg 2 (dCB cMax2 (dCons (dVar 1) (dCons (dCB cMin2 (dCons (dC (.int 12)) (dCons (dVar 2) dNil))) dNil)))) dNext)
  Bd__law_mended_3) := Classical.choose_spec ex_bd__law_mended_2
theorem ex_bd__law_mended_1 : ∃ x : DTS, x =
  (dSeq (dAsg 2 (dBin fIx (dVar 0) (dC (.int 2))))
  Bd__law_mended_2) := ⟨_, rfl⟩
noncomputable def Bd__law_mended_1 : DTS := Classical.choose ex_bd__law_mended_1
@[simp] theorem bd__law_mended_1 : Bd__law_mended_1 =
  (dSeq (dAsg 2 (dBin fIx (dVar 0) (dC (.int 2))))
  Bd__law_mended_2) := Classical.choose_spec ex_bd__law_mended_1
theorem ex_bd__law_mended : ∃ x : DTS, x =
  (dSeq (dAsg 1 (dCB cMax2 (dCons (dC (.int 1)) (dCons (dCB cMin2 (dCons (dC (.int 12)) (dCons (dBin fIx (dVar 0) (dC (.int 1))) dNil))) dNil))))
  Bd__law_mended_1) := ⟨_, rfl⟩
noncomputable def Bd__law_mended : DTS := Classical.choose ex_bd__law_mended
theorem bd__law_mended : Bd__law_mended =
  (dSeq (dAsg 1 (dCB cMax2 (dCons (dC (.int 1)) (dCons (dCB cMin2 (dCons (dC (.int 12)) (dCons (dBin fIx (dVar 0) (dC (.int 1))) dNil))) dNil))))
  Bd__law_mended_1) := Classical.choose_spec ex_bd__law_mended
noncomputable def dn__law_mended : DSp := dFn 1 4 Bd__law_mended
/-! law -/
abbrev N_law : List Str := ["script", "args", "hand", "way", "lists", "part", "x"]
theorem ex_bd_law_8 : ∃ x : DTS, x =
  (dRet (dCall 5 [] dn__law_asked (dCons (dVar 1) (dCons (dVar 3) (dCons (dVar 4) (dCons (dVar 5) (dCons (dVar 6) dNil))))))) := ⟨_, rfl⟩
noncomputable def Bd_law_8 : DTS := Classical.choose ex_bd_law_8
@[simp] theorem bd_law_8 : Bd_law_8 =
  (dRet (dCall 5 [] dn__law_asked (dCons (dVar 1) (dCons (dVar 3) (dCons (dVar 4) (dCons (dVar 5) (dCons (dVar 6) dNil))))))) := Classical.choose_spec ex_bd_law_8
theorem ex_bd_law_7 : ∃ x : DTS, x =
  (dSeq (dIf (dNot (dTr (dCall 5 [] dn__law_asked (dCons (dCall 1 [] dn__law_mended (dCons (dVar 1) dNil)) (dCons (dC (.int 0)) (dCons (dVar 4) (dCons (dVar 5) (dCons (dVar 6) dNil)))))))) (dRet (dC (.bl false))) dNext)
  Bd_law_8) := ⟨_, rfl⟩
noncomputable def Bd_law_7 : DTS := Classical.choose ex_bd_law_7
@[simp] theorem bd_law_7 : Bd_law_7 =
  (dSeq (dIf (dNot (dTr (dCall 5 [] dn__law_asked (dCons (dCall 1 [] dn__law_mended (dCons (dVar 1) dNil)) (dCons (dC (.int 0)) (dCons (dVar 4) (dCons (dVar 5) (dCons (dVar 6) dNil)))))))) (dRet (dC (.bl false))) dNext)
  Bd_law_8) := Classical.choose_spec ex_bd_law_7
theorem ex_bd_law_6 : ∃ x : DTS, x =
  (dSeq (dIf (dNot (dTr (dCall 5 [] dn__law_asked (dCons (dVar 1) (dCons (dVar 3) (dCons (dVar 4) (dCons (dVar 5) (dCons (dVar 6) dNil)))))))) (dRet (dC (.bl false))) dNext)
  Bd_law_7) := ⟨_, rfl⟩
noncomputable def Bd_law_6 : DTS := Classical.choose ex_bd_law_6
@[simp] theorem bd_law_6 : Bd_law_6 =
  (dSeq (dIf (dNot (dTr (dCall 5 [] dn__law_asked (dCons (dVar 1) (dCons (dVar 3) (dCons (dVar 4) (dCons (dVar 5) (dCons (dVar 6) dNil)))))))) (dRet (dC (.bl false))) dNext)
  Bd_law_7) := Classical.choose_spec ex_bd_law_6
theorem ex_bd_law_5 : ∃ x : DTS, x =
  (dSeq (dAsg 6 (dCall 2 [] dn__law_take (dCons (dVar 2) (dCons (dC (.int 6)) dNil))))
  Bd_law_6) := ⟨_, rfl⟩
noncomputable def Bd_law_5 : DTS := Classical.choose ex_bd_law_5
@[simp] theorem bd_law_5 : Bd_law_5 =
  (dSeq (dAsg 6 (dCall 2 [] dn__law_take (dCons (dVar 2) (dCons (dC (.int 6)) dNil))))
  Bd_law_6) := Classical.choose_spec ex_bd_law_5
theorem ex_bd_law_4 : ∃ x : DTS, x =
  (dSeq (dAsg 5 (dCall 2 [] dn__law_take (dCons (dVar 2) (dCons (dC (.int 7)) dNil))))
  Bd_law_5) := ⟨_, rfl⟩
noncomputable def Bd_law_4 : DTS := Classical.choose ex_bd_law_4
@[simp] theorem bd_law_4 : Bd_law_4 =
  (dSeq (dAsg 5 (dCall 2 [] dn__law_take (dCons (dVar 2) (dCons (dC (.int 7)) dNil))))
  Bd_law_5) := Classical.choose_spec ex_bd_law_4
theorem ex_bd_law_3 : ∃ x : DTS, x =
  (dSeq (dAsg 4 (dBin fGt (dCall 2 [] dn__law_take (dCons (dVar 2) (dCons (dC (.int 3)) dNil))) (dC (.int 0))))
  Bd_law_4) := ⟨_, rfl⟩
noncomputable def Bd_law_3 : DTS := Classical.choose ex_bd_law_3
@[simp] theorem bd_law_3 : Bd_law_3 =
  (dSeq (dAsg 4 (dBin fGt (dCall 2 [] dn__law_take (dCons (dVar 2) (dCons (dC (.int 3)) dNil))) (dC (.int 0))))
  Bd_law_4) := Classical.choose_spec ex_bd_law_3
theorem ex_bd_law_2 : ∃ x : DTS, x =
  (dSeq (dAsg 3 (dCall 2 [] dn__law_take (dCons (dVar 2) (dCons (dC (.int 10)) dNil))))
  Bd_law_3) := ⟨_, rfl⟩
noncomputable def Bd_law_2 : DTS := Classical.choose ex_bd_law_2
@[simp] theorem bd_law_2 : Bd_law_2 =
  (dSeq (dAsg 3 (dCall 2 [] dn__law_take (dCons (dVar 2) (dCons (dC (.int 10)) dNil))))
  Bd_law_3) := Classical.choose_spec ex_bd_law_2
theorem ex_bd_law_1 : ∃ x : DTS, x =
  (dSeq (dAsg 2 (dCall 2 [] dn__law_hand (dCons (dVar 0) (dCons (dC (.int 4)) dNil))))
  Bd_law_2) := ⟨_, rfl⟩
noncomputable def Bd_law_1 : DTS := Classical.choose ex_bd_law_1
@[simp] theorem bd_law_1 : Bd_law_1 =
  (dSeq (dAsg 2 (dCall 2 [] dn__law_hand (dCons (dVar 0) (dCons (dC (.int 4)) dNil))))
  Bd_law_2) := Classical.choose_spec ex_bd_law_1
theorem ex_bd_law : ∃ x : DTS, x =
  (dSeq (dAsg 1 (dCall 1 [] dn__law_args (dCons (dVar 0) dNil)))
  Bd_law_1) := ⟨_, rfl⟩
noncomputable def Bd_law : DTS := Classical.choose ex_bd_law
theorem bd_law : Bd_law =
  (dSeq (dAsg 1 (dCall 1 [] dn__law_args (dCons (dVar 0) dNil)))
  Bd_law_1) := Classical.choose_spec ex_bd_law
noncomputable def dn_law : DSp := dFn 1 7 Bd_law
end Tk48
namespace Tk48
open PySem PySem.Spec PyProof.Rows L2 DL
open Classical
def top (i : Nat) : Stmt := PySem.Challenge.pw_crossinglights_k48_phase_kept.main.body.getD i (.Pass ⟨0, 0, 0, 0⟩)
def cbody : Stmt → List Stmt
  | .ClassDef (body := b) .. => b
  | _ => []
def s__law_cell : Stmt := top 13
def df__law_cell : DD := ⟨⟨("_law_cell", none), "_law_cell", "_law_cell", defArgs s__law_cell, defBody s__law_cell, defScope s__law_cell, [], []⟩, none, false⟩
def s__law_hand : Stmt := top 14
def df__law_hand : DD := ⟨⟨("_law_hand", none), "_law_hand", "_law_hand", defArgs s__law_hand, defBody s__law_hand, defScope s__law_hand, [], []⟩, none, false⟩
def s__law_take : Stmt := top 15
def df__law_take : DD := ⟨⟨("_law_take", none), "_law_take", "_law_take", defArgs s__law_take, defBody s__law_take, defScope s__law_take, [], []⟩, none, false⟩
def s__law_number : Stmt := top 19
def df__law_number : DD := ⟨⟨("_law_number", none), "_law_number", "_law_number", defArgs s__law_number, defBody s__law_number, defScope s__law_number, [], []⟩, none, false⟩
def s__law_streams : Stmt := top 18
def df__law_streams : DD := ⟨⟨("_law_streams", none), "_law_streams", "_law_streams", defArgs s__law_streams, defBody s__law_streams, defScope s__law_streams, [], []⟩, none, false⟩
def s__law_args : Stmt := top 20
def df__law_args : DD := ⟨⟨("_law_args", none), "_law_args", "_law_args", defArgs s__law_args, defBody s__law_args, defScope s__law_args, [], []⟩, none, false⟩
def s__law_filled : Stmt := top 24
def df__law_filled : DD := ⟨⟨("_law_filled", none), "_law_filled", "_law_filled", defArgs s__law_filled, defBody s__law_filled, defScope s__law_filled, [], []⟩, none, false⟩
def s__law_up : Stmt := top 22
def df__law_up : DD := ⟨⟨("_law_up", none), "_law_up", "_law_up", defArgs s__law_up, defBody s__law_up, defScope s__law_up, [], []⟩, none, false⟩
def s__law_wrong : Stmt := top 25
def df__law_wrong : DD := ⟨⟨("_law_wrong", none), "_law_wrong", "_law_wrong", defArgs s__law_wrong, defBody s__law_wrong, defScope s__law_wrong, [], []⟩, none, false⟩
def s__law_handed : Stmt := top 26
def df__law_handed : DD := ⟨⟨("_law_handed", none), "_law_handed", "_law_handed", defArgs s__law_handed, defBody s__law_handed, defScope s__law_handed, [], []⟩, none, false⟩
def s_are_streams : Stmt := top 9
def df_are_streams : DD := ⟨⟨("are_streams", none), "are_streams", "are_streams", defArgs s_are_streams, defBody s_are_streams, defScope s_are_streams, [], []⟩, none, false⟩
def s_check_phase : Stmt := top 10
def df_check_phase : DD := ⟨⟨("check_phase", none), "check_phase", "check_phase", defArgs s_check_phase, defBody s_check_phase, defScope s_check_phase, [], []⟩, none, false⟩
def s_Phase_init_d : Stmt := ((cbody (top 11)).getD 0 (.Pass ⟨0, 0, 0, 0⟩))
def df_Phase_init_d : DD := ⟨⟨("Phase", some "__init__"), "__init__", "Phase.__init__", defArgs s_Phase_init_d, defBody s_Phase_init_d, defScope s_Phase_init_d, [], [("least", .int 1), ("most", .non), ("pause", .int 0), ("holds", .adr (kwAt ("Phase", some "__init__") "holds")), ("calls", .adr (kwAt ("Phase", some "__init__") "calls")), ("yields", .bl false)]⟩, none, false⟩
def s__law_called : Stmt := top 27
def df__law_called : DD := ⟨⟨("_law_called", none), "_law_called", "_law_called", defArgs s__law_called, defBody s__law_called, defScope s__law_called, [], []⟩, none, false⟩
def s__law_is_int : Stmt := top 16
def df__law_is_int : DD := ⟨⟨("_law_is_int", none), "_law_is_int", "_law_is_int", defArgs s__law_is_int, defBody s__law_is_int, defScope s__law_is_int, [], []⟩, none, false⟩
def s__law_same : Stmt := top 17
def df__law_same : DD := ⟨⟨("_law_same", none), "_law_same", "_law_same", defArgs s__law_same, defBody s__law_same, defScope s__law_same, [], []⟩, none, false⟩
def s__law_by_base : Stmt := top 28
def df__law_by_base : DD := ⟨⟨("_law_by_base", none), "_law_by_base", "_law_by_base", defArgs s__law_by_base, defBody s__law_by_base, defScope s__law_by_base, [], []⟩, none, false⟩
def s__law_told : Stmt := top 29
def df__law_told : DD := ⟨⟨("_law_told", none), "_law_told", "_law_told", defArgs s__law_told, defBody s__law_told, defScope s__law_told, [], []⟩, none, false⟩
def s__law_down : Stmt := top 21
def df__law_down : DD := ⟨⟨("_law_down", none), "_law_down", "_law_down", defArgs s__law_down, defBody s__law_down, defScope s__law_down, [], []⟩, none, false⟩
def s__law_other : Stmt := top 30
def df__law_other : DD := ⟨⟨("_law_other", none), "_law_other", "_law_other", defArgs s__law_other, defBody s__law_other, defScope s__law_other, [], []⟩, none, false⟩
def s_Phase_eq_d : Stmt := ((cbody (top 11)).getD 1 (.Pass ⟨0, 0, 0, 0⟩))
def df_Phase_eq_d : DD := ⟨⟨("Phase", some "__eq__"), "__eq__", "Phase.__eq__", defArgs s_Phase_eq_d, defBody s_Phase_eq_d, defScope s_Phase_eq_d, [], []⟩, none, false⟩
def s__law_equal_right : Stmt := top 31
def df__law_equal_right : DD := ⟨⟨("_law_equal_right", none), "_law_equal_right", "_law_equal_right", defArgs s__law_equal_right, defBody s__law_equal_right, defScope s__law_equal_right, [], []⟩, none, false⟩
def s__law_asked : Stmt := top 32
def df__law_asked : DD := ⟨⟨("_law_asked", none), "_law_asked", "_law_asked", defArgs s__law_asked, defBody s__law_asked, defScope s__law_asked, [], []⟩, none, false⟩
def s__law_mended : Stmt := top 23
def df__law_mended : DD := ⟨⟨("_law_mended", none), "_law_mended", "_law_mended", defArgs s__law_mended, defBody s__law_mended, defScope s__law_mended, [], []⟩, none, false⟩
def s_law : Stmt := top 33
def df_law : DD := ⟨⟨("law", none), "law", "law", defArgs s_law, defBody s_law, defScope s_law, [], []⟩, none, false⟩
def s_BadPhase_init_d : Stmt := ((cbody (top 3)).getD 0 (.Pass ⟨0, 0, 0, 0⟩))
def df_BadPhase_init_d : DD := ⟨⟨("BadPhase", some "__init__"), "__init__", "BadPhase.__init__", defArgs s_BadPhase_init_d, defBody s_BadPhase_init_d, defScope s_BadPhase_init_d, [], []⟩, none, true⟩
def fn : List DD := [df__law_cell, df__law_hand, df__law_take, df__law_number, df__law_streams, df__law_args, df__law_filled, df__law_up, df__law_wrong, df__law_handed, df_are_streams, df_check_phase, df_Phase_init_d, df__law_called, df__law_is_int, df__law_same, df__law_by_base, df__law_told, df__law_down, df__law_other, df_Phase_eq_d, df__law_equal_right, df__law_asked, df__law_mended, df_law, df_BadPhase_init_d]
def fs : List Fact := [fa (.free "len"),
  fa (.free "abs"),
  fa (.glo "_law_cell"),
  fa (.free "int"),
  fa (.glo "_law_hand"),
  fa (.glo "_law_take"),
  fa (.glo "_law_number"),
  fa (.free "range"),
  fa (.glo "_law_streams"),
  fa (.free "max"),
  fa (.free "min"),
  fa (.glo "_law_args"),
  fa (.free "list"),
  fa (.glo "_law_filled"),
  fa (.free "tuple"),
  fa (.glo "_law_up"),
  fa (.free "sorted"),
  fa (.glo "_law_wrong"),
  fa (.glo "_law_handed"),
  fa (.free "enumerate"),
  fa (.int "LAST_STREAM" 5),
  fa (.glo "are_streams"),
  fa (.int "MOST_PAUSE" 9),
  fa (.int "MOST_GREEN" 12),
  fa (.glo "check_phase"),
  fa (.cls "Phase"),
  fa (.noat "Phase" "yields"),
  fa (.noat "Phase" "calls"),
  fa (.noat "Phase" "holds"),
  fa (.noat "Phase" "pause"),
  fa (.noat "Phase" "most"),
  fa (.noat "Phase" "least"),
  fa (.noat "Phase" "green"),
  fa (.glo "Phase"),
  fa (.mkr "Phase"),
  fTup0 ("Phase", some "__init__") "holds",
  fTup0 ("Phase", some "__init__") "calls",
  fa (.glo "_law_called"),
  fa (.free "isinstance"),
  fa (.free "bool"),
  fa (.glo "_law_is_int"),
  fa (.free "str"),
  fa (.glo "_law_same"),
  fa (.exm "BadPhase" "LightsError" true),
  fa (.glo "BadLane"),
  fa (.glo "BadBook"),
  fa (.free "ValueError"),
  fa (.glo "BadPhase"),
  fa (.glo "LightsError"),
  fa (.glo "_law_by_base"),
  fa (.glo "_law_told"),
  fa (.glo "_law_down"),
  fa (.glo "_law_other"),
  fa (.meth "Phase" "__eq__"),
  fa (.glo "_law_equal_right"),
  fa (.exm "BadPhase" "BadPhase" true),
  fXfT "BadPhase" "part",
  fa (.glo "_law_asked"),
  fa (.glo "_law_mended"),
  fa (.glo "law"),
  fSup ("BadPhase", some "__init__") "BadPhase",
  fXC "BadPhase" ["part"],
  fa (.free "super"),
  fKit (.own "Phase") (.own "Phase") true,
  fTy "Phase",
  fKit (.ty "NoneType") (.own "Phase") false,
  fKit (.ty "bool") (.own "Phase") false,
  fKit (.ty "int") (.own "Phase") false,
  fKit (.ty "str") (.own "Phase") false,
  fKit (.ty "list") (.own "Phase") false,
  fKit (.ty "tuple") (.own "Phase") false,
  fKit (.own "Phase") (.ty "ValueError") false,
  fKit (.own "Phase") (.ty "bool") false,
  fKit (.own "Phase") (.ty "int") false,
  fKit (.own "Phase") (.ty "list") false,
  fKit (.own "Phase") (.ty "str") false,
  fKit (.own "Phase") (.ty "tuple") false,
  fKit (.own "BadPhase") (.own "BadBook") false,
  fExcC "BadPhase",
  fKit (.own "BadPhase") (.own "BadLane") false,
  fKit (.own "BadPhase") (.own "BadPhase") true,
  fKit (.own "BadPhase") (.ty "ValueError") true]
theorem bb_len : bootBuiltins "len" = some (.builtin "len") := by first | rfl | decide +kernel
theorem bb_isinstance : bootBuiltins "isinstance" = some (.builtin "isinstance") := by first | rfl | decide +kernel
theorem bb_abs : bootBuiltins "abs" = some (.builtin "abs") := by first | rfl | decide +kernel
theorem bb_max : bootBuiltins "max" = some (.builtin "max") := by first | rfl | decide +kernel
theorem bb_min : bootBuiltins "min" = some (.builtin "min") := by first | rfl | decide +kernel
theorem bb_sorted : bootBuiltins "sorted" = some (.builtin "sorted") := by first | rfl | decide +kernel
theorem bb_iter : bootBuiltins "iter" = some (.builtin "iter") := by first | rfl | decide +kernel
theorem bb_sum : bootBuiltins "sum" = some (.builtin "sum") := by first | rfl | decide +kernel
theorem bb_int : bootBuiltins "int" = some (.type "int") := by first | rfl | decide +kernel
theorem bb_list : bootBuiltins "list" = some (.type "list") := by first | rfl | decide +kernel
theorem bb_tuple : bootBuiltins "tuple" = some (.type "tuple") := by first | rfl | decide +kernel
theorem bb_str : bootBuiltins "str" = some (.type "str") := by first | rfl | decide +kernel
theorem bb_bool : bootBuiltins "bool" = some (.type "bool") := by first | rfl | decide +kernel
theorem bb_range : bootBuiltins "range" = some (.type "range") := by first | rfl | decide +kernel
theorem bb_ValueError : bootBuiltins "ValueError" = some (.type "ValueError") := by first | rfl | decide +kernel
theorem its_ok {P : Program} {w : World} {K : PySem.W.Frag} {mg : Str → Option Value} {base : Heap} (t : Txt P fs fn K mg) : OkIts P w K mg base 1 its := trivial
theorem itab_ok {P : Program} {K : PySem.W.Frag} {mg : Str → Option Value} (t : Txt P fs fn K mg) : ITOk K itab := ⟨⟨t.kit 63, t.ty 64⟩, ⟨t.kit 65, trivial⟩, ⟨t.kit 66, trivial⟩, ⟨t.kit 67, trivial⟩, ⟨t.kit 68, trivial⟩, ⟨t.kit 69, trivial⟩, ⟨t.kit 70, trivial⟩, ⟨t.kit 71, t.ty 64⟩, ⟨t.kit 72, t.ty 64⟩, ⟨t.kit 73, t.ty 64⟩, ⟨t.kit 74, t.ty 64⟩, ⟨t.kit 75, t.ty 64⟩, ⟨t.kit 76, t.ty 64⟩, trivial⟩
theorem etab_ok {P : Program} {K : PySem.W.Frag} {mg : Str → Option Value} (t : Txt P fs fn K mg) : ETOk K etab := ⟨⟨t.kit 77, t.excC 78⟩, ⟨t.kit 79, t.excC 78⟩, ⟨t.kit 80, t.excC 78⟩, ⟨t.kit 81, t.excC 78⟩, trivial⟩
theorem okx_BadPhase {P : Program} {w : World} {K : PySem.W.Frag} {mg : Str → Option Value} {base : Heap} (t : Txt P fs fn K mg) : OkX P w K mg base "BadPhase" ["part"] := by
  obtain ⟨fd, cda, cc, F, hb⟩ := t.sup 25 60 (d := df_BadPhase_init_d) (C := "BadPhase")
  exact ⟨(t.glo 47), (t.xf 61).xc.oc, Or.inl rfl, _, fd, ["self", "part"], (t.xf 61).ini, (t.xf 61).ty, hb _ (fun _ _ _ _ _ us hl => match us, hl with | [_, _], _ => rfl),
    xi1 (l := [.inr 1, .inl " of the phase is wrong"]) F (NdefX.nscope_by (by decide +kernel)) t.pg (t.xf 61).xc rfl rfl (t.free 62) (by decide +kernel) ((t.xf 61).no _ (by simp)) (by rfl) (fun X hN hS => (.cons (pe_fmt (pe_var (i := 1) (by rw [hN]; rfl) (Or.inl (by rw [hS]; decide +kernel)))) (.cons pe_str .nil))) (by decide +kernel) (fun env => ⟨_, rfl⟩)⟩
/-! _law_cell -/
theorem sc__law_cell : FnScope N__law_cell ["script", "k"] df__law_cell.scope := ⟨rfl, rfl, rfl, by decide +kernel, rfl, by decide +kernel, by decide +kernel⟩
theorem ok__law_cell {P : Program} {w : World} {K : PySem.W.Frag} {mg : Str → Option Value} {base : Heap} (t : Txt P fs fn K mg) : OkF P w K mg base 4 "_law_cell" 2 [] dn__law_cell := by
  obtain ⟨fd, F⟩ := t.def_ 0 (d := df__law_cell)
  have hN : (N__law_cell).Nodup := sc__law_cell.nd
  refine okF F (t.glo 2) (F.bindsN (ps := ["script", "k"]) fun _ _ _ _ _ _ us hl => match us, hl with | [_, _], _ => rfl) .nil (fun _ => repL_nil) sc__law_cell rfl fun cdv A ou s H E hr => ?_
  rw [bd__law_cell, bd__law_cell_1]
  exact (ws_cons (w1_if (wt_cmp od_lt (vL 1) (we_callB call_len rd_len rfl (t.free 0) bb_len (wa_cons (vL 0) wa_nil)) rfl) (ws_one (w1_ret (we_callB call_abs rd_abs rfl (t.free 1) bb_abs (wa_cons (we_ix (vL 0) (vL 1) (fun _ _ => rfl)) wa_nil)))) ws_nil)
  (ws_one (w1_ret we_int)))
/-! _law_hand -/
theorem sc__law_hand : FnScope N__law_hand ["script", "k"] df__law_hand.scope := ⟨rfl, rfl, rfl, by decide +kernel, rfl, by decide +kernel, by decide +kernel⟩
theorem ok__law_hand {P : Program} {w : World} {K : PySem.W.Frag} {mg : Str → Option Value} {base : Heap} (t : Txt P fs fn K mg) : OkF P w K mg base 5 "_law_hand" 2 [] dn__law_hand := by
  obtain ⟨fd, F⟩ := t.def_ 1 (d := df__law_hand)
  have hN : (N__law_hand).Nodup := sc__law_hand.nd
  refine okFC F (t.glo 4) (F.bindsN (ps := ["script", "k"]) fun _ _ _ _ _ _ us hl => match us, hl with | [_, _], _ => rfl) .nil (fun _ => repL_nil) sc__law_hand rfl fun cdv A ou s H E hr => ?_
  rw [bd__law_hand, bd__law_hand_1]
  exact (ws_cons (w1_asg (i := 2) hN rfl (Or.inl rfl) (we_call ((ok__law_cell t).mono (by decide)) hr rfl (wa_cons (vL 0) (wa_cons (vL 1) wa_nil))))
  (ws_one (w1_ret (we_lstM (wa_cons (vL 2) (wa_cons (we_callTy call_int1 rd_int rfl (t.free 3) bb_int (wa_cons (we_cmp od_ge (vL 2) (we_bin od_pow we_int we_int) rfl) wa_nil)) (wa_cons we_int (wa_cons (we_bin od_add (we_bin od_mod (we_callTy call_int1 rd_int rfl (t.free 3) bb_int (wa_cons (vL 2) wa_nil)) we_int) (we_bin od_mul we_int (vL 1))) wa_nil))))))))
theorem okz__law_hand {P : Program} {w : World} {K : PySem.W.Frag} {mg : Str → Option Value} {base : Heap} (t : Txt P fs fn K mg) : OkF P w K mg base 5 "_law_hand" 2 [] dnF__law_hand := by
  obtain ⟨fd, F⟩ := t.def_ 1 (d := df__law_hand)
  have hN : (N__law_hand).Nodup := sc__law_hand.nd
  refine okF F (t.glo 4) (F.bindsN (ps := ["script", "k"]) fun _ _ _ _ _ _ us hl => match us, hl with | [_, _], _ => rfl) .nil (fun _ => repL_nil) sc__law_hand rfl fun cdv A ou s H E hr => ?_
  rw [bd__law_hand, bd__law_hand_1]
  exact (ws_cons (w1_asg (i := 2) hN rfl (Or.inl rfl) (we_call ((ok__law_cell t).mono (by decide)) hr rfl (wa_cons (vL 0) (wa_cons (vL 1) wa_nil))))
  (ws_one (w1_ret (we_lstM (wa_cons (vL 2) (wa_cons (we_callTy call_int1 rd_int rfl (t.free 3) bb_int (wa_cons (we_cmp od_ge (vL 2) (we_bin od_pow we_int we_int) rfl) wa_nil)) (wa_cons we_int (wa_cons (we_bin od_add (we_bin od_mod (we_callTy call_int1 rd_int rfl (t.free 3) bb_int (wa_cons (vL 2) wa_nil)) we_int) (we_bin od_mul we_int (vL 1))) wa_nil))))))))
/-! _law_take -/
theorem sc__law_take : FnScope N__law_take ["hand", "many"] df__law_take.scope := ⟨rfl, rfl, rfl, by decide +kernel, rfl, by decide +kernel, by decide +kernel⟩
theorem ok__law_take {P : Program} {w : World} {K : PySem.W.Frag} {mg : Str → Option Value} {base : Heap} (t : Txt P fs fn K mg) : OkF P w K mg base 4 "_law_take" 2 [] dn__law_take := by
  obtain ⟨fd, F⟩ := t.def_ 2 (d := df__law_take)
  have hN : (N__law_take).Nodup := sc__law_take.nd
  refine okF F (t.glo 5) (F.bindsN (ps := ["hand", "many"]) fun _ _ _ _ _ _ us hl => match us, hl with | [_, _], _ => rfl) .nil (fun _ => repL_nil) sc__law_take rfl fun cdv A ou s H E hr => ?_
  rw [bd__law_take, bd__law_take_1, bd__law_take_2, bd__law_take_3, bd__law_take_4, bd__law_take_5]
  exact (ws_cons (w1_if (WW.wt (ww_and (wt_cmp od_eqS (we_ix (vL 0) we_int (fun _ _ => rfl)) we_int rfl) (ww_and1 (wt_cmp od_gt (we_ix (vL 0) we_int (fun _ _ => rfl)) we_int rfl)))) (ws_cons (w1_asg (i := 2) hN rfl (Or.inl rfl) (we_bin od_mod (we_callTy call_int1 rd_int rfl (t.free 3) bb_int (wa_cons (we_ix (vL 0) we_int (fun _ _ => rfl)) wa_nil)) (vL 1)))
  (ws_cons (w1_sub (vL 0) we_int (we_bin od_div (we_ix (vL 0) we_int (fun _ _ => rfl)) (vL 1)) (fun _ _ => rfl) (fun ho hi hs => pg_sub ho hi hs))
  (ws_one (w1_ret (vL 2))))) ws_nil)
  (ws_cons (w1_sub (vL 0) we_int (we_bin od_add (we_ix (vL 0) we_int (fun _ _ => rfl)) we_int) (fun _ _ => rfl) (fun ho hi hs => pg_sub ho hi hs))
  (ws_cons (w1_asg (i := 3) hN rfl (Or.inl rfl) (we_bin od_mod (we_callTy call_int1 rd_int rfl (t.free 3) bb_int (wa_cons (we_bin od_add (we_bin od_add (we_bin od_mul (we_ix (vL 0) we_int (fun _ _ => rfl)) we_int) (we_bin od_mul (we_ix (vL 0) we_int (fun _ _ => rfl)) we_int)) we_int) wa_nil)) we_int))
  (ws_cons (w1_asg (i := 3) hN rfl (Or.inl rfl) (we_bin od_mod (we_callTy call_int1 rd_int rfl (t.free 3) bb_int (wa_cons (we_bin od_add (we_bin od_add (we_bin od_mul (vL 3) (vL 3)) (we_bin od_mul (we_ix (vL 0) we_int (fun _ _ => rfl)) we_int)) we_int) wa_nil)) we_int))
  (ws_cons (w1_asg (i := 3) hN rfl (Or.inl rfl) (we_bin od_mod (we_callTy call_int1 rd_int rfl (t.free 3) bb_int (wa_cons (we_bin od_add (we_bin od_mul (vL 3) (vL 3)) (we_bin od_div (vL 3) we_int)) wa_nil)) we_int))
  (ws_one (w1_ret (we_bin od_mod (we_callTy call_int1 rd_int rfl (t.free 3) bb_int (wa_cons (we_bin od_div (vL 3) we_int) wa_nil)) (vL 1)))))))))
/-! _law_number -/
theorem sc__law_number : FnScope N__law_number ["hand", "free", "low", "high"] df__law_number.scope := ⟨rfl, rfl, rfl, by decide +kernel, rfl, by decide +kernel, by decide +kernel⟩
theorem ok__law_number {P : Program} {w : World} {K : PySem.W.Frag} {mg : Str → Option Value} {base : Heap} (t : Txt P fs fn K mg) : OkF P w K mg base 5 "_law_number" 4 [] dn__law_number := by
  obtain ⟨fd, F⟩ := t.def_ 3 (d := df__law_number)
  have hN : (N__law_number).Nodup := sc__law_number.nd
  refine okF F (t.glo 6) (F.bindsN (ps := ["hand", "free", "low", "high"]) fun _ _ _ _ _ _ us hl => match us, hl with | [_, _, _, _], _ => rfl) .nil (fun _ => repL_nil) sc__law_number rfl fun cdv A ou s H E hr => ?_
  rw [bd__law_number, bd__law_number_1, bd__law_number_2]
  exact (ws_cons (w1_if (wt_not (wt_tr (vL 1))) (ws_one (w1_ret (we_bin od_add (vL 2) (we_call ((ok__law_take t).mono (by decide)) hr rfl (wa_cons (vL 0) (wa_cons (we_bin od_add (we_bin od_sub (vL 3) (vL 2)) we_int) wa_nil)))))) ws_nil)
  (ws_cons (w1_if (wt_cmp od_eqS (we_call ((ok__law_take t).mono (by decide)) hr rfl (wa_cons (vL 0) (wa_cons we_int wa_nil))) we_int rfl) (ws_one (w1_ret (we_bin od_sub (we_call ((ok__law_take t).mono (by decide)) hr rfl (wa_cons (vL 0) (wa_cons (we_bin od_add (we_bin od_mul we_int (we_bin od_pow we_int we_int)) we_int) wa_nil))) (we_bin od_pow we_int we_int)))) ws_nil)
  (ws_one (w1_ret (we_bin od_sub (we_call ((ok__law_take t).mono (by decide)) hr rfl (wa_cons (vL 0) (wa_cons we_int wa_nil))) we_int)))))
/-! _law_streams -/
theorem sc__law_streams : FnScope N__law_streams ["hand", "free"] df__law_streams.scope := ⟨rfl, rfl, rfl, by decide +kernel, rfl, by decide +kernel, by decide +kernel⟩
theorem ok__law_streams {P : Program} {w : World} {K : PySem.W.Frag} {mg : Str → Option Value} {base : Heap} (t : Txt P fs fn K mg) : OkF P w K mg base 5 "_law_streams" 2 [] dn__law_streams := by
  obtain ⟨fd, F⟩ := t.def_ 4 (d := df__law_streams)
  have hN : (N__law_streams).Nodup := sc__law_streams.nd
  refine okF F (t.glo 8) (F.bindsN (ps := ["hand", "free"]) fun _ _ _ _ _ _ us hl => match us, hl with | [_, _], _ => rfl) .nil (fun _ => repL_nil) sc__law_streams rfl fun cdv A ou s H E hr => ?_
  rw [bd__law_streams, bd__law_streams_1, bd__law_streams_2, bd__law_streams_3, bd__law_streams_4, bd__law_streams_5, bd__law_streams_6]
  exact (ws_cons (w1_asg (i := 2) hN rfl (Or.inl rfl) (we_call ((ok__law_take t).mono (by decide)) hr rfl (wa_cons (vC 0) (wa_cons we_int wa_nil))))
  (ws_cons (w1_if (WW.wt (ww_and (wt_tr (vL 1)) (ww_and1 (wt_cmp od_eqS (vL 2) we_int rfl)))) (ws_one (w1_ret (we_lc (own := [("k", 3)]) fin_lst rfl hN (show BlkOk N__law_streams df__law_streams.scope _ [("k", 3)] from ⟨rfl, by decide +kernel, by decide +kernel, by decide +kernel, by decide +kernel⟩) (wi_rng1 rfl (t.free 7) (we_call ((ok__law_take t).mono (by decide)) hr rfl (wa_cons (vC 0) (wa_cons we_int wa_nil)))) (by decide) (fun _ _ _ _ _ => (wg_name (i := 3) hN rfl (Or.inl rfl))) (fun _ _ _ _ _ => wc_nil) (fun _ _ _ _ _ => (we_bin od_sub (we_call ((ok__law_take t).mono (by decide)) hr rfl (wa_cons (vC 0) (wa_cons we_int wa_nil))) we_int))))) ws_nil)
  (ws_cons (w1_asg (i := 4) hN rfl (Or.inl rfl) (we_lstM wa_nil))
  (ws_cons (w1_for (passes_of rfl) rfl (wi_rng1 rfl (t.free 7) (we_call ((ok__law_take t).mono (by decide)) hr rfl (wa_cons (vC 0) (wa_cons we_int wa_nil)))) (wg_name (i := 3) hN rfl (Or.inl rfl)) (ws_cons (w1_asg (i := 5) hN rfl (Or.inl rfl) (we_call ((ok__law_take t).mono (by decide)) hr rfl (wa_cons (vC 0) (wa_cons we_int wa_nil))))
  (ws_one (w1_if (wt_cmp od_notIn (vL 5) (vL 4) rfl) (ws_one (w1_expr (we_append (vL 4) (vL 5)))) ws_nil))))
  (ws_cons (w1_if (WW.wt (ww_and (wt_tr (vL 1)) (ww_and1 (wt_cmp od_eqS (vL 2) we_int rfl)))) (ws_cons (w1_asg (i := 6) hN rfl (Or.inl rfl) (we_ix (we_lst (wa_cons we_int (wa_cons (we_un ud_neg we_int) (wa_cons (we_bin od_pow we_int we_int) (wa_cons (we_un ud_neg (we_bin od_pow we_int we_int)) wa_nil))))) (we_call ((ok__law_take t).mono (by decide)) hr rfl (wa_cons (vC 0) (wa_cons we_int wa_nil))) (fun _ _ => rfl)))
  (ws_one (w1_expr (we_insert (vL 4) (we_call ((ok__law_take t).mono (by decide)) hr rfl (wa_cons (vC 0) (wa_cons (we_bin od_add (we_callB call_len rd_len rfl (t.free 0) bb_len (wa_cons (vL 4) wa_nil)) we_int) wa_nil))) (vL 6))))) ws_nil)
  (ws_cons (w1_if (WW.wt (ww_and (wt_tr (vL 1)) (ww_and (wt_cmp od_eqS (vL 2) we_int rfl) (ww_and1 (wt_cmp od_gt (we_callB call_len rd_len rfl (t.free 0) bb_len (wa_cons (vL 4) wa_nil)) we_int rfl))))) (ws_cons (w1_asg (i := 7) hN rfl (Or.inl rfl) (we_ix (vL 4) (we_call ((ok__law_take t).mono (by decide)) hr rfl (wa_cons (vC 0) (wa_cons (we_callB call_len rd_len rfl (t.free 0) bb_len (wa_cons (vL 4) wa_nil)) wa_nil))) (fun _ _ => rfl)))
  (ws_one (w1_expr (we_insert (vL 4) (we_call ((ok__law_take t).mono (by decide)) hr rfl (wa_cons (vC 0) (wa_cons (we_bin od_add (we_callB call_len rd_len rfl (t.free 0) bb_len (wa_cons (vL 4) wa_nil)) we_int) wa_nil))) (vL 7))))) ws_nil)
  (ws_one (w1_ret (vL 4)))))))))
/-! _law_args -/
theorem sc__law_args : FnScope N__law_args ["script"] df__law_args.scope := ⟨rfl, rfl, rfl, by decide +kernel, rfl, by decide +kernel, by decide +kernel⟩
theorem ok__law_args {P : Program} {w : World} {K : PySem.W.Frag} {mg : Str → Option Value} {base : Heap} (t : Txt P fs fn K mg) : OkF P w K mg base 6 "_law_args" 1 [] dn__law_args := by
  obtain ⟨fd, F⟩ := t.def_ 5 (d := df__law_args)
  have hN : (N__law_args).Nodup := sc__law_args.nd
  refine okF F (t.glo 11) (F.bindsN (ps := ["script"]) fun _ _ _ _ _ _ us hl => match us, hl with | [_], _ => rfl) .nil (fun _ => repL_nil) sc__law_args rfl fun cdv A ou s H E hr => ?_
  rw [bd__law_args, bd__law_args_1, bd__law_args_2, bd__law_args_3, bd__law_args_4, bd__law_args_5, bd__law_args_6, bd__law_args_7, bd__law_args_8, bd__law_args_9, bd__law_args_10, bd__law_args_11, bd__law_args_12]
  exact (ws_cons (w1_asg (i := 1) hN rfl (Or.inl rfl) (we_call ((ok__law_hand t).mono (by decide)) hr rfl (wa_cons (vL 0) (wa_cons we_int wa_nil))))
  (ws_cons (w1_asg (i := 2) hN rfl (Or.inr rfl) (we_call ((ok__law_take t).mono (by decide)) hr rfl (wa_cons (vL 1) (wa_cons we_int wa_nil))))
  (ws_cons (w1_asg (i := 3) hN rfl (Or.inr rfl) (we_call ((ok__law_take t).mono (by decide)) hr rfl (wa_cons (vL 1) (wa_cons we_int wa_nil))))
  (ws_cons (w1_asgLc (own := [("k", 5)]) (i := 4) fin_lst rfl hN rfl rfl (sw_true rfl rfl rfl rfl) (show BlkOk N__law_args df__law_args.scope _ [("k", 5)] from ⟨rfl, by decide +kernel, by decide +kernel, by decide +kernel, by decide +kernel⟩) (wi_rng1 rfl (t.free 7) we_int) (by decide) (fun _ _ _ _ _ => (wg_name (i := 5) hN rfl (Or.inl rfl))) (fun _ _ _ _ _ => wc_nil) (fun _ _ _ _ _ => (we_or (we_cmp od_eqS (vC 2) we_int rfl) (we_one (we_and (we_cmp od_eqS (vC 2) we_int rfl) (we_one (we_cmp od_eqS (vC 3) (vL 5) rfl)))))))
  (ws_cons (w1_asg (i := 6) hN rfl (Or.inl rfl) (we_call ((ok__law_number t).mono (by decide)) hr rfl (wa_cons (vL 1) (wa_cons (we_ix (vL 4) we_int (fun _ _ => rfl)) (wa_cons we_int (wa_cons we_int wa_nil))))))
  (ws_cons (w1_asg (i := 7) hN rfl (Or.inl rfl) we_non)
  (ws_cons (w1_if (wt_cmp od_gt (we_call ((ok__law_take t).mono (by decide)) hr rfl (wa_cons (vL 1) (wa_cons we_int wa_nil))) we_int rfl) (ws_one (w1_asg (i := 7) hN rfl (Or.inl rfl) (we_call ((ok__law_number t).mono (by decide)) hr rfl (wa_cons (vL 1) (wa_cons (we_ix (vL 4) we_int (fun _ _ => rfl)) (wa_cons (we_callB (call_max2 rfl) rd_max2 rfl (t.free 9) bb_max (wa_cons we_int (wa_cons (we_callB (call_min2 rfl) rd_min2 rfl (t.free 10) bb_min (wa_cons we_int (wa_cons (vL 6) wa_nil))) wa_nil))) (wa_cons we_int wa_nil))))))) ws_nil)
  (ws_cons (w1_asg (i := 8) hN rfl (Or.inl rfl) (we_call ((ok__law_number t).mono (by decide)) hr rfl (wa_cons (vL 1) (wa_cons (we_ix (vL 4) we_int (fun _ _ => rfl)) (wa_cons we_int (wa_cons we_int wa_nil))))))
  (ws_cons (w1_asg (i := 9) hN rfl (Or.inl rfl) (we_cmp od_eqS (we_call ((ok__law_take t).mono (by decide)) hr rfl (wa_cons (vL 1) (wa_cons we_int wa_nil))) we_int rfl))
  (ws_cons (w1_asg (i := 10) hN rfl (Or.inl rfl) (we_call ((ok__law_streams t).mono (by decide)) hr rfl (wa_cons (we_call ((ok__law_hand t).mono (by decide)) hr rfl (wa_cons (vL 0) (wa_cons we_int wa_nil))) (wa_cons (we_ix (vL 4) we_int (fun _ _ => rfl)) wa_nil))))
  (ws_cons (w1_asg (i := 11) hN rfl (Or.inl rfl) (we_call ((ok__law_streams t).mono (by decide)) hr rfl (wa_cons (we_call ((ok__law_hand t).mono (by decide)) hr rfl (wa_cons (vL 0) (wa_cons we_int wa_nil))) (wa_cons (we_ix (vL 4) we_int (fun _ _ => rfl)) wa_nil))))
  (ws_cons (w1_asg (i := 12) hN rfl (Or.inl rfl) (we_call ((ok__law_streams t).mono (by decide)) hr rfl (wa_cons (we_call ((ok__law_hand t).mono (by decide)) hr rfl (wa_cons (vL 0) (wa_cons we_int wa_nil))) (wa_cons (we_ix (vL 4) we_int (fun _ _ => rfl)) wa_nil))))
  (ws_one (w1_ret (we_lst (wa_cons (vL 10) (wa_cons (vL 6) (wa_cons (vL 7) (wa_cons (vL 8) (wa_cons (vL 11) (wa_cons (vL 12) (wa_cons (vL 9) wa_nil))))))))))))))))))))))
/-! _law_filled -/
theorem sc__law_filled : FnScope N__law_filled ["args", "way"] df__law_filled.scope := ⟨rfl, rfl, rfl, by decide +kernel, rfl, by decide +kernel, by decide +kernel⟩
theorem ok__law_filled {P : Program} {w : World} {K : PySem.W.Frag} {mg : Str → Option Value} {base : Heap} (t : Txt P fs fn K mg) : OkF P w K mg base 4 "_law_filled" 2 [] dn__law_filled := by
  obtain ⟨fd, F⟩ := t.def_ 6 (d := df__law_filled)
  have hN : (N__law_filled).Nodup := sc__law_filled.nd
  refine okF F (t.glo 13) (F.bindsN (ps := ["args", "way"]) fun _ _ _ _ _ _ us hl => match us, hl with | [_, _], _ => rfl) .nil (fun _ => repL_nil) sc__law_filled rfl fun cdv A ou s H E hr => ?_
  rw [bd__law_filled, bd__law_filled_1, bd__law_filled_2, bd__law_filled_3]
  exact (ws_cons (w1_asg (i := 2) hN rfl (Or.inl rfl) (we_lst (wa_cons we_non (wa_cons we_int (wa_cons we_non (wa_cons we_int (wa_cons (we_tup wa_nil) (wa_cons (we_tup wa_nil) (wa_cons we_bl wa_nil)))))))))
  (ws_cons (w1_asg (i := 3) hN rfl (Or.inl rfl) (we_callTy call_list_of rd_listM rfl (t.free 12) bb_list (wa_cons (vL 0) wa_nil)))
  (ws_cons (w1_for (passes_of rfl) rfl (wi_rng2 rfl (t.free 7) we_int we_int) (wg_name (i := 4) hN rfl (Or.inl rfl)) (ws_one (w1_if (WW.wt (ww_or (wt_cmp od_eqS (vL 1) (vL 4) rfl) (ww_or (wt_cmp od_eqS (vL 1) we_int rfl) (ww_or (WW.wt (ww_and (wt_cmp od_eqS (vL 1) we_int rfl) (ww_and1 (wt_cmp od_neS (vL 4) we_int rfl)))) (ww_or1 (WW.wt (ww_and (wt_cmp od_eqS (vL 1) we_int rfl) (ww_and1 (wt_cmp od_notIn (vL 4) (we_tup (wa_cons we_int (wa_cons we_int wa_nil))) rfl))))))))) (ws_one (w1_sub (vL 3) (vL 4) (we_ix (vL 2) (vL 4) (fun _ _ => rfl)) (fun _ _ => rfl) (fun ho hi hs => pg_sub ho hi hs))) ws_nil)))
  (ws_one (w1_ret (vL 3))))))
/-! _law_up -/
theorem sc__law_up : FnScope N__law_up ["row"] df__law_up.scope := ⟨rfl, rfl, rfl, by decide +kernel, rfl, by decide +kernel, by decide +kernel⟩
theorem ok__law_up {P : Program} {w : World} {K : PySem.W.Frag} {mg : Str → Option Value} {base : Heap} (t : Txt P fs fn K mg) : OkF P w K mg base 4 "_law_up" 1 [] dn__law_up := by
  obtain ⟨fd, F⟩ := t.def_ 7 (d := df__law_up)
  have hN : (N__law_up).Nodup := sc__law_up.nd
  refine okF F (t.glo 15) (F.bindsN (ps := ["row"]) fun _ _ _ _ _ _ us hl => match us, hl with | [_], _ => rfl) .nil (fun _ => repL_nil) sc__law_up rfl fun cdv A ou s H E hr => ?_
  rw [bd__law_up]
  exact (ws_one (w1_ret (we_callTy call_tuple_of rd_tuple rfl (t.free 14) bb_tuple (wa_cons (we_lc (own := [("y", 1)]) fin_lst rfl hN (show BlkOk N__law_up df__law_up.scope _ [("y", 1)] from ⟨rfl, by decide +kernel, by decide +kernel, by decide +kernel, by decide +kernel⟩) (wi_rng1 rfl (t.free 7) we_int) (by decide) (fun _ _ _ _ _ => (wg_name (i := 1) hN rfl (Or.inl rfl))) (fun _ _ _ _ _ => (wc_one (wt_cmp od_in (vL 1) (vC 0) rfl))) (fun _ _ _ _ _ => (vL 1))) wa_nil))))
/-! _law_wrong -/
theorem sc__law_wrong : FnScope N__law_wrong ["filled"] df__law_wrong.scope := ⟨rfl, rfl, rfl, by decide +kernel, rfl, by decide +kernel, by decide +kernel⟩
theorem ok__law_wrong {P : Program} {w : World} {K : PySem.W.Frag} {mg : Str → Option Value} {base : Heap} (t : Txt P fs fn K mg) : OkF P w K mg base 5 "_law_wrong" 1 [] dn__law_wrong := by
  obtain ⟨fd, F⟩ := t.def_ 8 (d := df__law_wrong)
  have hN : (N__law_wrong).Nodup := sc__law_wrong.nd
  refine okF F (t.glo 17) (F.bindsN (ps := ["filled"]) fun _ _ _ _ _ _ us hl => match us, hl with | [_], _ => rfl) .nil (fun _ => repL_nil) sc__law_wrong rfl fun cdv A ou s H E hr => ?_
  rw [bd__law_wrong, bd__law_wrong_1, bd__law_wrong_2, bd__law_wrong_3, bd__law_wrong_4, bd__law_wrong_5, bd__law_wrong_6, bd__law_wrong_7, bd__law_wrong_8]
  exact (ws_cons (w1_asg (i := 1) hN rfl (Or.inl rfl) (we_ix (vL 0) we_int (fun _ _ => rfl)))
  (ws_cons (w1_if (wt_cmp od_is (vL 1) we_non rfl) (ws_one (w1_asg (i := 1) hN rfl (Or.inl rfl) (we_ix (vL 0) we_int (fun _ _ => rfl)))) ws_nil)
  (ws_cons (w1_if (wt_cmp (od_neD hr.units) (we_callB cr_sortA rd_sortA rfl (t.free 16) bb_sorted (wa_cons (we_ix (vL 0) we_int (fun _ _ => rfl)) wa_nil)) (we_callTy call_list_of rd_list rfl (t.free 12) bb_list (wa_cons (we_call ((ok__law_up t).mono (by decide)) hr rfl (wa_cons (we_ix (vL 0) we_int (fun _ _ => rfl)) wa_nil)) wa_nil)) rfl) (ws_one (w1_ret we_str)) ws_nil)
  (ws_cons (w1_if (WW.wt (ww_or (wt_cmp od_lt (we_ix (vL 0) we_int (fun _ _ => rfl)) we_int rfl) (ww_or1 (wt_cmp od_gt (we_ix (vL 0) we_int (fun _ _ => rfl)) we_int rfl)))) (ws_one (w1_ret we_str)) ws_nil)
  (ws_cons (w1_if (WW.wt (ww_or (wt_cmp od_lt (vL 1) (we_ix (vL 0) we_int (fun _ _ => rfl)) rfl) (ww_or1 (wt_cmp od_gt (vL 1) we_int rfl)))) (ws_one (w1_ret we_str)) ws_nil)
  (ws_cons (w1_if (WW.wt (ww_or (wt_cmp od_lt (we_ix (vL 0) we_int (fun _ _ => rfl)) we_int rfl) (ww_or1 (wt_cmp od_gt (we_ix (vL 0) we_int (fun _ _ => rfl)) we_int rfl)))) (ws_one (w1_ret we_str)) ws_nil)
  (ws_cons (w1_if (wt_cmp (od_neD hr.units) (we_callB cr_sortA rd_sortA rfl (t.free 16) bb_sorted (wa_cons (we_ix (vL 0) we_int (fun _ _ => rfl)) wa_nil)) (we_callTy call_list_of rd_list rfl (t.free 12) bb_list (wa_cons (we_call ((ok__law_up t).mono (by decide)) hr rfl (wa_cons (we_ix (vL 0) we_int (fun _ _ => rfl)) wa_nil)) wa_nil)) rfl) (ws_one (w1_ret we_str)) ws_nil)
  (ws_cons (w1_if (wt_cmp (od_neD hr.units) (we_callB cr_sortA rd_sortA rfl (t.free 16) bb_sorted (wa_cons (we_ix (vL 0) we_int (fun _ _ => rfl)) wa_nil)) (we_callTy call_list_of rd_list rfl (t.free 12) bb_list (wa_cons (we_call ((ok__law_up t).mono (by decide)) hr rfl (wa_cons (we_ix (vL 0) we_int (fun _ _ => rfl)) wa_nil)) wa_nil)) rfl) (ws_one (w1_ret we_str)) ws_nil)
  (ws_one (w1_ret we_non))))))))))
/-! _law_handed -/
theorem sc__law_handed : FnScope N__law_handed ["args", "lists"] df__law_handed.scope := ⟨rfl, rfl, rfl, by decide +kernel, rfl, by decide +kernel, by decide +kernel⟩
theorem ok__law_handed {P : Program} {w : World} {K : PySem.W.Frag} {mg : Str → Option Value} {base : Heap} (t : Txt P fs fn K mg) : OkF P w K mg base 4 "_law_handed" 2 [] dn__law_handed := by
  obtain ⟨fd, F⟩ := t.def_ 9 (d := df__law_handed)
  have hN : (N__law_handed).Nodup := sc__law_handed.nd
  refine okFX F (t.glo 18) (F.bindsN (ps := ["args", "lists"]) fun _ _ _ _ _ _ us hl => match us, hl with | [_, _], _ => rfl) .nil (fun _ => repL_nil) sc__law_handed rfl fun cdv A ou s H E hr => ?_
  rw [bd__law_handed, bd__law_handed_1, bd__law_handed_2]
  exact (ws_cons (w1_asg (i := 2) hN rfl (Or.inl rfl) (we_callTy call_list_of rd_listM rfl (t.free 12) bb_list (wa_cons (vL 0) wa_nil)))
  (ws_cons (w1_for (passes_of rfl) rfl (wi_any (its_ok t) (hr.mono (by decide)) (we_tup (wa_cons we_int (wa_cons we_int (wa_cons we_int wa_nil))))) (wg_name (i := 3) hN rfl (Or.inl rfl)) (ws_cons (w1_subS (vL 2) (vL 3) (we_callTy call_list_of rd_listM rfl (t.free 12) bb_list (wa_cons (we_ix (vL 0) (vL 3) (fun _ _ => rfl)) wa_nil)) (fun _ _ => rfl) (fun ho hi hs => pg_sub ho hi hs))
  (ws_one (w1_if (wt_not (wt_tr (vL 1))) (ws_one (w1_subS (vL 2) (vL 3) (we_callTy call_tuple_of rd_tuple rfl (t.free 14) bb_tuple (wa_cons (we_ix (vL 0) (vL 3) (fun _ _ => rfl)) wa_nil)) (fun _ _ => rfl) (fun ho hi hs => pg_sub ho hi hs))) ws_nil))))
  (ws_one (w1_ret (vL 2)))))
/-! are_streams -/
theorem sc_are_streams : FnScope N_are_streams ["numbers"] df_are_streams.scope := ⟨rfl, rfl, rfl, by decide +kernel, rfl, by decide +kernel, by decide +kernel⟩
theorem ok_are_streams {P : Program} {w : World} {K : PySem.W.Frag} {mg : Str → Option Value} {base : Heap} (t : Txt P fs fn K mg) : OkF P w K mg base 4 "are_streams" 1 [] dn_are_streams := by
  obtain ⟨fd, F⟩ := t.def_ 10 (d := df_are_streams)
  have hN : (N_are_streams).Nodup := sc_are_streams.nd
  refine okF F (t.glo 21) (F.bindsN (ps := ["numbers"]) fun _ _ _ _ _ _ us hl => match us, hl with | [_], _ => rfl) .nil (fun _ => repL_nil) sc_are_streams rfl fun cdv A ou s H E hr => ?_
  rw [bd_are_streams, bd_are_streams_1]
  exact (ws_cons (w1_for (passes_of rfl) rfl (wi_enumT rfl (t.free 19) (vL 0)) (wg_tup' rfl (wgs_cons' (wg_name (i := 1) hN rfl (Or.inl rfl)) (wgs_cons' (wg_name (i := 2) hN rfl (Or.inl rfl)) wgs_nil))) (ws_one (w1_if (WW.wt (ww_or (wt_not (wt_chain od_le od_le we_int (vL 2) (we_gint rfl (t.int 20)))) (ww_or1 (wt_cmp od_in (vL 2) (we_sl to_lst (vL 0) wo_none (wo_some (vL 1))) rfl)))) (ws_one (w1_ret we_bl)) ws_nil)))
  (ws_one (w1_ret we_bl)))
/-! check_phase -/
theorem sc_check_phase : FnScope N_check_phase ["green", "least", "most", "pause", "holds", "calls"] df_check_phase.scope := ⟨rfl, rfl, rfl, by decide +kernel, rfl, by decide +kernel, by decide +kernel⟩
theorem ok_check_phase {P : Program} {w : World} {K : PySem.W.Frag} {mg : Str → Option Value} {base : Heap} (t : Txt P fs fn K mg) : OkF P w K mg base 5 "check_phase" 6 [] dn_check_phase := by
  obtain ⟨fd, F⟩ := t.def_ 11 (d := df_check_phase)
  have hN : (N_check_phase).Nodup := sc_check_phase.nd
  refine okF F (t.glo 24) (F.bindsN (ps := ["green", "least", "most", "pause", "holds", "calls"]) fun _ _ _ _ _ _ us hl => match us, hl with | [_, _, _, _, _, _], _ => rfl) .nil (fun _ => repL_nil) sc_check_phase rfl fun cdv A ou s H E hr => ?_
  rw [bd_check_phase, bd_check_phase_1, bd_check_phase_2, bd_check_phase_3, bd_check_phase_4, bd_check_phase_5]
  exact (ws_cons (w1_if (wt_not (wt_tr (we_call ((ok_are_streams t).mono (by decide)) hr rfl (wa_cons (vL 0) wa_nil)))) (ws_one (w1_raiseX rfl (okx_BadPhase t) (hr.mono (by decide)) rfl (wa_cons we_str wa_nil))) ws_nil)
  (ws_cons (w1_if (wt_not (wt_chain od_le od_le we_int (vL 1) (we_gint rfl (t.int 23)))) (ws_one (w1_raiseX rfl (okx_BadPhase t) (hr.mono (by decide)) rfl (wa_cons we_str wa_nil))) ws_nil)
  (ws_cons (w1_if (wt_not (wt_chain od_le od_le (vL 1) (vL 2) (we_gint rfl (t.int 23)))) (ws_one (w1_raiseX rfl (okx_BadPhase t) (hr.mono (by decide)) rfl (wa_cons we_str wa_nil))) ws_nil)
  (ws_cons (w1_if (wt_not (wt_chain od_le od_le we_int (vL 3) (we_gint rfl (t.int 22)))) (ws_one (w1_raiseX rfl (okx_BadPhase t) (hr.mono (by decide)) rfl (wa_cons we_str wa_nil))) ws_nil)
  (ws_cons (w1_if (wt_not (wt_tr (we_call ((ok_are_streams t).mono (by decide)) hr rfl (wa_cons (vL 4) wa_nil)))) (ws_one (w1_raiseX rfl (okx_BadPhase t) (hr.mono (by decide)) rfl (wa_cons we_str wa_nil))) ws_nil)
  (ws_one (w1_if (wt_not (wt_tr (we_call ((ok_are_streams t).mono (by decide)) hr rfl (wa_cons (vL 5) wa_nil)))) (ws_one (w1_raiseX rfl (okx_BadPhase t) (hr.mono (by decide)) rfl (wa_cons we_str wa_nil))) ws_nil)))))))
/-! Phase.__init__ -/
theorem sc_Phase_init_d : FnScope N_Phase_init_d ["self", "green", "least", "most", "pause", "holds", "calls", "yields"] df_Phase_init_d.scope := ⟨rfl, rfl, rfl, by decide +kernel, rfl, by decide +kernel, by decide +kernel⟩
theorem ok_Phase_init_d {P : Program} {w : World} {K : PySem.W.Frag} {mg : Str → Option Value} {base : Heap} (t : Txt P fs fn K mg) : OkB P w K mg base 6 "Phase" 8 ["self", "green", "least", "most", "pause", "holds", "calls", "yields"] df_Phase_init_d dn_Phase_init_d := by
  obtain ⟨fd, F⟩ := t.def_ 12 (d := df_Phase_init_d)
  have hN : (N_Phase_init_d).Nodup := sc_Phase_init_d.nd
  refine okB F (t.glo 33) (t.mkr 34) sc_Phase_init_d rfl fun cdv A ou s H E hr => ?_
  rw [bd_Phase_init_d, bd_Phase_init_d_1, bd_Phase_init_d_2, bd_Phase_init_d_3, bd_Phase_init_d_4, bd_Phase_init_d_5, bd_Phase_init_d_6, bd_Phase_init_d_7, bd_Phase_init_d_8]
  exact (ws_cons (w1_asg (i := 8) hN rfl (Or.inl rfl) (we_ifE (wt_cmp od_is (vL 3) we_non rfl) (vL 2) (vL 3)))
  (ws_cons (w1_expr (we_call ((ok_check_phase t).mono (by decide)) hr rfl (wa_cons (vL 1) (wa_cons (vL 2) (wa_cons (vL 8) (wa_cons (vL 4) (wa_cons (vL 5) (wa_cons (vL 6) wa_nil))))))))
  (ws_cons (w1_setf ⟨⟨(t.cls 25), (t.noat 32)⟩, trivial⟩ (vL 0) (we_callTy call_tuple_of rd_tuple rfl (t.free 14) bb_tuple (wa_cons (we_callB cr_sortA rd_sortA rfl (t.free 16) bb_sorted (wa_cons (vL 1) wa_nil)) wa_nil)))
  (ws_cons (w1_setf ⟨⟨(t.cls 25), (t.noat 31)⟩, trivial⟩ (vL 0) (vL 2))
  (ws_cons (w1_setf ⟨⟨(t.cls 25), (t.noat 30)⟩, trivial⟩ (vL 0) (vL 8))
  (ws_cons (w1_setf ⟨⟨(t.cls 25), (t.noat 29)⟩, trivial⟩ (vL 0) (vL 4))
  (ws_cons (w1_setf ⟨⟨(t.cls 25), (t.noat 28)⟩, trivial⟩ (vL 0) (we_callTy call_tuple_of rd_tuple rfl (t.free 14) bb_tuple (wa_cons (we_callB cr_sortA rd_sortA rfl (t.free 16) bb_sorted (wa_cons (vL 5) wa_nil)) wa_nil)))
  (ws_cons (w1_setf ⟨⟨(t.cls 25), (t.noat 27)⟩, trivial⟩ (vL 0) (we_callTy call_tuple_of rd_tuple rfl (t.free 14) bb_tuple (wa_cons (we_callB cr_sortA rd_sortA rfl (t.free 16) bb_sorted (wa_cons (vL 6) wa_nil)) wa_nil)))
  (ws_one (w1_setf ⟨⟨(t.cls 25), (t.noat 26)⟩, trivial⟩ (vL 0) (vL 7)))))))))))
theorem okk0_Phase_init_d {P : Program} {w : World} {K : PySem.W.Frag} {mg : Str → Option Value} {base : Heap} (t : Txt P fs fn K mg) : OkK P w K mg base 6 "Phase" 1 8 ["least", "most", "pause", "holds", "calls", "yields"] [(true, 0), (true, 1), (true, 2), (true, 3), (true, 4), (true, 5)] [] dn_Phase_init_d := by
  refine okK (ok_Phase_init_d t) [(true, 0), (true, 1), (true, 2), (true, 3), (true, 4), (true, 5)] [] rfl (List.cons_ne_nil _ _) (fun q hq => nomatch hq) (fun H => repL_nil) ?_
  intro T doc pm an cdv ct us mv ws h1 h2 h3
  exact match us, h1, mv, h2, ws, h3 with | [_, _], _, [], _, [_, _, _, _, _, _], _ => rfl
theorem okk1_Phase_init_d {P : Program} {w : World} {K : PySem.W.Frag} {mg : Str → Option Value} {base : Heap} (t : Txt P fs fn K mg) : OkK P w K mg base 6 "Phase" 1 8 ["most", "pause", "holds", "calls", "yields"] [(false, 0), (true, 0), (true, 1), (true, 2), (true, 3), (true, 4)] [.int 1] dn_Phase_init_d := by
  refine okK (ok_Phase_init_d t) [(false, 0), (true, 0), (true, 1), (true, 2), (true, 3), (true, 4)] [("least", .int 1)] rfl (List.cons_ne_nil _ _) (fun q hq => by simp only [List.mem_cons, List.not_mem_nil, or_false] at hq; rcases hq with rfl <;> simp [He.DefD.kws, df_Phase_init_d, He.Dv.v]) (fun H => (repL_cons rep_int' repL_nil)) ?_
  intro T doc pm an cdv ct us mv ws h1 h2 h3
  exact match us, h1, mv, h2, ws, h3 with | [_, _], _, [_], _, [_, _, _, _, _], _ => ⟨_, _, _, _, _, _, rfl, rfl, rfl⟩
theorem okk2_Phase_init_d {P : Program} {w : World} {K : PySem.W.Frag} {mg : Str → Option Value} {base : Heap} (t : Txt P fs fn K mg) : OkK P w K mg base 6 "Phase" 1 8 ["least", "pause", "holds", "calls", "yields"] [(true, 0), (false, 0), (true, 1), (true, 2), (true, 3), (true, 4)] [.non] dn_Phase_init_d := by
  refine okK (ok_Phase_init_d t) [(true, 0), (false, 0), (true, 1), (true, 2), (true, 3), (true, 4)] [("most", .non)] rfl (List.cons_ne_nil _ _) (fun q hq => by simp only [List.mem_cons, List.not_mem_nil, or_false] at hq; rcases hq with rfl <;> simp [He.DefD.kws, df_Phase_init_d, He.Dv.v]) (fun H => (repL_cons rep_non' repL_nil)) ?_
  intro T doc pm an cdv ct us mv ws h1 h2 h3
  exact match us, h1, mv, h2, ws, h3 with | [_, _], _, [_], _, [_, _, _, _, _], _ => ⟨_, _, _, _, _, _, rfl, rfl, rfl⟩
theorem okk3_Phase_init_d {P : Program} {w : World} {K : PySem.W.Frag} {mg : Str → Option Value} {base : Heap} (t : Txt P fs fn K mg) : OkK P w K mg base 6 "Phase" 1 8 ["least", "most", "holds", "calls", "yields"] [(true, 0), (true, 1), (false, 0), (true, 2), (true, 3), (true, 4)] [.int 0] dn_Phase_init_d := by
  refine okK (ok_Phase_init_d t) [(true, 0), (true, 1), (false, 0), (true, 2), (true, 3), (true, 4)] [("pause", .int 0)] rfl (List.cons_ne_nil _ _) (fun q hq => by simp only [List.mem_cons, List.not_mem_nil, or_false] at hq; rcases hq with rfl <;> simp [He.DefD.kws, df_Phase_init_d, He.Dv.v]) (fun H => (repL_cons rep_int' repL_nil)) ?_
  intro T doc pm an cdv ct us mv ws h1 h2 h3
  exact match us, h1, mv, h2, ws, h3 with | [_, _], _, [_], _, [_, _, _, _, _], _ => ⟨_, _, _, _, _, _, rfl, rfl, rfl⟩
theorem okk4_Phase_init_d {P : Program} {w : World} {K : PySem.W.Frag} {mg : Str → Option Value} {base : Heap} (t : Txt P fs fn K mg) : OkK P w K mg base 6 "Phase" 1 8 ["least", "most", "pause", "calls", "yields"] [(true, 0), (true, 1), (true, 2), (false, 0), (true, 3), (true, 4)] [.tup []] dn_Phase_init_d := by
  refine okK (ok_Phase_init_d t) [(true, 0), (true, 1), (true, 2), (false, 0), (true, 3), (true, 4)] [("holds", .ref (kwAt ("Phase", some "__init__") "holds" K))] rfl (List.cons_ne_nil _ _) (fun q hq => by simp only [List.mem_cons, List.not_mem_nil, or_false] at hq; rcases hq with rfl <;> simp [He.DefD.kws, df_Phase_init_d, He.Dv.v]) (fun H => (repL_cons (t.tup0 35 rfl H) repL_nil)) ?_
  intro T doc pm an cdv ct us mv ws h1 h2 h3
  exact match us, h1, mv, h2, ws, h3 with | [_, _], _, [_], _, [_, _, _, _, _], _ => ⟨_, _, _, _, _, _, rfl, rfl, rfl⟩
theorem okk5_Phase_init_d {P : Program} {w : World} {K : PySem.W.Frag} {mg : Str → Option Value} {base : Heap} (t : Txt P fs fn K mg) : OkK P w K mg base 6 "Phase" 1 8 ["least", "most", "pause", "holds", "yields"] [(true, 0), (true, 1), (true, 2), (true, 3), (false, 0), (true, 4)] [.tup []] dn_Phase_init_d := by
  refine okK (ok_Phase_init_d t) [(true, 0), (true, 1), (true, 2), (true, 3), (false, 0), (true, 4)] [("calls", .ref (kwAt ("Phase", some "__init__") "calls" K))] rfl (List.cons_ne_nil _ _) (fun q hq => by simp only [List.mem_cons, List.not_mem_nil, or_false] at hq; rcases hq with rfl <;> simp [He.DefD.kws, df_Phase_init_d, He.Dv.v]) (fun H => (repL_cons (t.tup0 36 rfl H) repL_nil)) ?_
  intro T doc pm an cdv ct us mv ws h1 h2 h3
  exact match us, h1, mv, h2, ws, h3 with | [_, _], _, [_], _, [_, _, _, _, _], _ => ⟨_, _, _, _, _, _, rfl, rfl, rfl⟩
theorem okk6_Phase_init_d {P : Program} {w : World} {K : PySem.W.Frag} {mg : Str → Option Value} {base : Heap} (t : Txt P fs fn K mg) : OkK P w K mg base 6 "Phase" 1 8 ["least", "most", "pause", "holds", "calls"] [(true, 0), (true, 1), (true, 2), (true, 3), (true, 4), (false, 0)] [.bl false] dn_Phase_init_d := by
  refine okK (ok_Phase_init_d t) [(true, 0), (true, 1), (true, 2), (true, 3), (true, 4), (false, 0)] [("yields", .bl false)] rfl (List.cons_ne_nil _ _) (fun q hq => by simp only [List.mem_cons, List.not_mem_nil, or_false] at hq; rcases hq with rfl <;> simp [He.DefD.kws, df_Phase_init_d, He.Dv.v]) (fun H => (repL_cons rep_bl' repL_nil)) ?_
  intro T doc pm an cdv ct us mv ws h1 h2 h3
  exact match us, h1, mv, h2, ws, h3 with | [_, _], _, [_], _, [_, _, _, _, _], _ => ⟨_, _, _, _, _, _, rfl, rfl, rfl⟩
theorem okk7_Phase_init_d {P : Program} {w : World} {K : PySem.W.Frag} {mg : Str → Option Value} {base : Heap} (t : Txt P fs fn K mg) : OkK P w K mg base 6 "Phase" 1 8 [] [(false, 0), (false, 1), (false, 2), (false, 3), (false, 4), (false, 5)] [.int 1, .non, .int 0, .tup [], .tup [], .bl false] dn_Phase_init_d := by
  refine okK (ok_Phase_init_d t) [(false, 0), (false, 1), (false, 2), (false, 3), (false, 4), (false, 5)] [("least", .int 1), ("most", .non), ("pause", .int 0), ("holds", .ref (kwAt ("Phase", some "__init__") "holds" K)), ("calls", .ref (kwAt ("Phase", some "__init__") "calls" K)), ("yields", .bl false)] rfl (List.cons_ne_nil _ _) (fun q hq => by simp only [List.mem_cons, List.not_mem_nil, or_false] at hq; rcases hq with rfl | rfl | rfl | rfl | rfl | rfl <;> simp [He.DefD.kws, df_Phase_init_d, He.Dv.v]) (fun H => (repL_cons rep_int' (repL_cons rep_non' (repL_cons rep_int' (repL_cons (t.tup0 35 rfl H) (repL_cons (t.tup0 36 rfl H) (repL_cons rep_bl' repL_nil))))))) ?_
  intro T doc pm an cdv ct us mv ws h1 h2 h3
  exact match us, h1, mv, h2, ws, h3 with | [_, _], _, [_, _, _, _, _, _], _, [], _ => ⟨_, _, _, _, _, _, rfl, rfl, ⟨_, _, _, _, _, _, rfl, rfl, ⟨_, _, _, _, _, _, rfl, rfl, ⟨_, _, _, _, _, _, rfl, rfl, ⟨_, _, _, _, _, _, rfl, rfl, ⟨_, _, _, _, _, _, rfl, rfl, rfl⟩⟩⟩⟩⟩⟩
theorem okk8_Phase_init_d {P : Program} {w : World} {K : PySem.W.Frag} {mg : Str → Option Value} {base : Heap} (t : Txt P fs fn K mg) : OkK P w K mg base 6 "Phase" 1 8 ["least"] [(true, 0), (false, 0), (false, 1), (false, 2), (false, 3), (false, 4)] [.non, .int 0, .tup [], .tup [], .bl false] dn_Phase_init_d := by
  refine okK (ok_Phase_init_d t) [(true, 0), (false, 0), (false, 1), (false, 2), (false, 3), (false, 4)] [("most", .non), ("pause", .int 0), ("holds", .ref (kwAt ("Phase", some "__init__") "holds" K)), ("calls", .ref (kwAt ("Phase", some "__init__") "calls" K)), ("yields", .bl false)] rfl (List.cons_ne_nil _ _) (fun q hq => by simp only [List.mem_cons, List.not_mem_nil, or_false] at hq; rcases hq with rfl | rfl | rfl | rfl | rfl <;> simp [He.DefD.kws, df_Phase_init_d, He.Dv.v]) (fun H => (repL_cons rep_non' (repL_cons rep_int' (repL_cons (t.tup0 35 rfl H) (repL_cons (t.tup0 36 rfl H) (repL_cons rep_bl' repL_nil)))))) ?_
  intro T doc pm an cdv ct us mv ws h1 h2 h3
  exact match us, h1, mv, h2, ws, h3 with | [_, _], _, [_, _, _, _, _], _, [_], _ => ⟨_, _, _, _, _, _, rfl, rfl, ⟨_, _, _, _, _, _, rfl, rfl, ⟨_, _, _, _, _, _, rfl, rfl, ⟨_, _, _, _, _, _, rfl, rfl, ⟨_, _, _, _, _, _, rfl, rfl, rfl⟩⟩⟩⟩⟩
theorem okk9_Phase_init_d {P : Program} {w : World} {K : PySem.W.Frag} {mg : Str → Option Value} {base : Heap} (t : Txt P fs fn K mg) : OkK P w K mg base 6 "Phase" 1 8 ["pause", "yields"] [(false, 0), (false, 1), (true, 0), (false, 2), (false, 3), (true, 1)] [.int 1, .non, .tup [], .tup []] dn_Phase_init_d := by
  refine okK (ok_Phase_init_d t) [(false, 0), (false, 1), (true, 0), (false, 2), (false, 3), (true, 1)] [("least", .int 1), ("most", .non), ("holds", .ref (kwAt ("Phase", some "__init__") "holds" K)), ("calls", .ref (kwAt ("Phase", some "__init__") "calls" K))] rfl (List.cons_ne_nil _ _) (fun q hq => by simp only [List.mem_cons, List.not_mem_nil, or_false] at hq; rcases hq with rfl | rfl | rfl | rfl <;> simp [He.DefD.kws, df_Phase_init_d, He.Dv.v]) (fun H => (repL_cons rep_int' (repL_cons rep_non' (repL_cons (t.tup0 35 rfl H) (repL_cons (t.tup0 36 rfl H) repL_nil))))) ?_
  intro T doc pm an cdv ct us mv ws h1 h2 h3
  exact match us, h1, mv, h2, ws, h3 with | [_, _], _, [_, _, _, _], _, [_, _], _ => ⟨_, _, _, _, _, _, rfl, rfl, ⟨_, _, _, _, _, _, rfl, rfl, ⟨_, _, _, _, _, _, rfl, rfl, ⟨_, _, _, _, _, _, rfl, rfl, rfl⟩⟩⟩⟩
/-! _law_called -/
theorem sc__law_called : FnScope N__law_called ["row", "way"] df__law_called.scope := ⟨rfl, rfl, rfl, by decide +kernel, rfl, by decide +kernel, by decide +kernel⟩
theorem ok__law_called {P : Program} {w : World} {K : PySem.W.Frag} {mg : Str → Option Value} {base : Heap} (t : Txt P fs fn K mg) : OkF P w K mg base 8 "_law_called" 2 [] dn__law_called := by
  obtain ⟨fd, F⟩ := t.def_ 13 (d := df__law_called)
  have hN : (N__law_called).Nodup := sc__law_called.nd
  refine okF F (t.glo 37) (F.bindsN (ps := ["row", "way"]) fun _ _ _ _ _ _ us hl => match us, hl with | [_, _], _ => rfl) .nil (fun _ => repL_nil) sc__law_called rfl fun cdv A ou s H E hr => ?_
  rw [bd__law_called, bd__law_called_1, bd__law_called_2, bd__law_called_3, bd__law_called_4, bd__law_called_5, bd__law_called_6, bd__law_called_7, bd__law_called_8, bd__law_called_9]
  exact (ws_cons (w1_if (wt_cmp od_eqS (vL 1) we_int rfl) (ws_one (w1_ret (we_makeK (j := 6) ((okk1_Phase_init_d t).mono (by decide)) hr rfl (wa_cons (we_ix (vL 0) we_int (fun _ _ => rfl)) wa_nil) (wk_cons (we_ix (vL 0) we_int (fun _ _ => rfl)) (wk_cons (we_ix (vL 0) we_int (fun _ _ => rfl)) (wk_cons (we_ix (vL 0) we_int (fun _ _ => rfl)) (wk_cons (we_ix (vL 0) we_int (fun _ _ => rfl)) (wk_cons (we_ix (vL 0) we_int (fun _ _ => rfl)) wk_nil)))))))) ws_nil)
  (ws_cons (w1_if (wt_cmp od_eqS (vL 1) we_int rfl) (ws_one (w1_ret (we_makeK (j := 6) ((okk2_Phase_init_d t).mono (by decide)) hr rfl (wa_cons (we_ix (vL 0) we_int (fun _ _ => rfl)) wa_nil) (wk_cons (we_ix (vL 0) we_int (fun _ _ => rfl)) (wk_cons (we_ix (vL 0) we_int (fun _ _ => rfl)) (wk_cons (we_ix (vL 0) we_int (fun _ _ => rfl)) (wk_cons (we_ix (vL 0) we_int (fun _ _ => rfl)) (wk_cons (we_ix (vL 0) we_int (fun _ _ => rfl)) wk_nil)))))))) ws_nil)
  (ws_cons (w1_if (wt_cmp od_eqS (vL 1) we_int rfl) (ws_one (w1_ret (we_makeK (j := 6) ((okk3_Phase_init_d t).mono (by decide)) hr rfl (wa_cons (we_ix (vL 0) we_int (fun _ _ => rfl)) wa_nil) (wk_cons (we_ix (vL 0) we_int (fun _ _ => rfl)) (wk_cons (we_ix (vL 0) we_int (fun _ _ => rfl)) (wk_cons (we_ix (vL 0) we_int (fun _ _ => rfl)) (wk_cons (we_ix (vL 0) we_int (fun _ _ => rfl)) (wk_cons (we_ix (vL 0) we_int (fun _ _ => rfl)) wk_nil)))))))) ws_nil)
  (ws_cons (w1_if (wt_cmp od_eqS (vL 1) we_int rfl) (ws_one (w1_ret (we_makeK (j := 6) ((okk4_Phase_init_d t).mono (by decide)) hr rfl (wa_cons (we_ix (vL 0) we_int (fun _ _ => rfl)) wa_nil) (wk_cons (we_ix (vL 0) we_int (fun _ _ => rfl)) (wk_cons (we_ix (vL 0) we_int (fun _ _ => rfl)) (wk_cons (we_ix (vL 0) we_int (fun _ _ => rfl)) (wk_cons (we_ix (vL 0) we_int (fun _ _ => rfl)) (wk_cons (we_ix (vL 0) we_int (fun _ _ => rfl)) wk_nil)))))))) ws_nil)
  (ws_cons (w1_if (wt_cmp od_eqS (vL 1) we_int rfl) (ws_one (w1_ret (we_makeK (j := 6) ((okk5_Phase_init_d t).mono (by decide)) hr rfl (wa_cons (we_ix (vL 0) we_int (fun _ _ => rfl)) wa_nil) (wk_cons (we_ix (vL 0) we_int (fun _ _ => rfl)) (wk_cons (we_ix (vL 0) we_int (fun _ _ => rfl)) (wk_cons (we_ix (vL 0) we_int (fun _ _ => rfl)) (wk_cons (we_ix (vL 0) we_int (fun _ _ => rfl)) (wk_cons (we_ix (vL 0) we_int (fun _ _ => rfl)) wk_nil)))))))) ws_nil)
  (ws_cons (w1_if (wt_cmp od_eqS (vL 1) we_int rfl) (ws_one (w1_ret (we_makeK (j := 6) ((okk6_Phase_init_d t).mono (by decide)) hr rfl (wa_cons (we_ix (vL 0) we_int (fun _ _ => rfl)) wa_nil) (wk_cons (we_ix (vL 0) we_int (fun _ _ => rfl)) (wk_cons (we_ix (vL 0) we_int (fun _ _ => rfl)) (wk_cons (we_ix (vL 0) we_int (fun _ _ => rfl)) (wk_cons (we_ix (vL 0) we_int (fun _ _ => rfl)) (wk_cons (we_ix (vL 0) we_int (fun _ _ => rfl)) wk_nil)))))))) ws_nil)
  (ws_cons (w1_if (wt_cmp od_eqS (vL 1) we_int rfl) (ws_one (w1_ret (we_makeK (j := 6) ((okk7_Phase_init_d t).mono (by decide)) hr rfl (wa_cons (we_ix (vL 0) we_int (fun _ _ => rfl)) wa_nil) wk_nil))) ws_nil)
  (ws_cons (w1_if (wt_cmp od_eqS (vL 1) we_int rfl) (ws_one (w1_ret (we_makeK (j := 6) ((okk8_Phase_init_d t).mono (by decide)) hr rfl (wa_cons (we_ix (vL 0) we_int (fun _ _ => rfl)) wa_nil) (wk_cons (we_ix (vL 0) we_int (fun _ _ => rfl)) wk_nil)))) ws_nil)
  (ws_cons (w1_if (wt_cmp od_eqS (vL 1) we_int rfl) (ws_one (w1_ret (we_makeK (j := 6) ((okk9_Phase_init_d t).mono (by decide)) hr rfl (wa_cons (we_ix (vL 0) we_int (fun _ _ => rfl)) wa_nil) (wk_cons (we_ix (vL 0) we_int (fun _ _ => rfl)) (wk_cons (we_ix (vL 0) we_int (fun _ _ => rfl)) wk_nil))))) ws_nil)
  (ws_one (w1_ret (we_makeK (j := 6) ((okk0_Phase_init_d t).mono (by decide)) hr rfl (wa_cons (we_ix (vL 0) we_int (fun _ _ => rfl)) wa_nil) (wk_cons (we_ix (vL 0) we_int (fun _ _ => rfl)) (wk_cons (we_ix (vL 0) we_int (fun _ _ => rfl)) (wk_cons (we_ix (vL 0) we_int (fun _ _ => rfl)) (wk_cons (we_ix (vL 0) we_int (fun _ _ => rfl)) (wk_cons (we_ix (vL 0) we_int (fun _ _ => rfl)) (wk_cons (we_ix (vL 0) we_int (fun _ _ => rfl)) wk_nil))))))))))))))))))
/-! _law_is_int -/
theorem sc__law_is_int : FnScope N__law_is_int ["got"] df__law_is_int.scope := ⟨rfl, rfl, rfl, by decide +kernel, rfl, by decide +kernel, by decide +kernel⟩
theorem ok__law_is_int {P : Program} {w : World} {K : PySem.W.Frag} {mg : Str → Option Value} {base : Heap} (t : Txt P fs fn K mg) : OkF P w K mg base 4 "_law_is_int" 1 [] dn__law_is_int := by
  obtain ⟨fd, F⟩ := t.def_ 14 (d := df__law_is_int)
  have hN : (N__law_is_int).Nodup := sc__law_is_int.nd
  refine okF F (t.glo 40) (F.bindsN (ps := ["got"]) fun _ _ _ _ _ _ us hl => match us, hl with | [_], _ => rfl) .nil (fun _ => repL_nil) sc__law_is_int rfl fun cdv A ou s H E hr => ?_
  rw [bd__law_is_int]
  exact (ws_one (w1_ret (we_and (we_callB call_isi (rd_isi (itab_ok t)) rfl (t.free 38) bb_isinstance (wa_cons (vL 0) (wa_cons (we_gty rfl (t.free 3) bb_int) wa_nil))) (we_one (we_not (we_callB call_isi (rd_isi (itab_ok t)) rfl (t.free 38) bb_isinstance (wa_cons (vL 0) (wa_cons (we_gty rfl (t.free 39) bb_bool) wa_nil))))))))
/-! _law_same -/
theorem sc__law_same : FnScope N__law_same ["got", "due"] df__law_same.scope := ⟨rfl, rfl, rfl, by decide +kernel, rfl, by decide +kernel, by decide +kernel⟩
theorem st__law_same {P : Program} {w : World} {K : PySem.W.Frag} {mg : Str → Option Value} {base : Heap} (t : Txt P fs fn K mg) {k : Nat} {rc : DSp} (hk : 4 ≤ k) (ih : OkF P w K mg base k "_law_same" 2 [] rc) : OkF P w K mg base (k + 1) "_law_same" 2 [] (dFn 2 3 (Bd__law_same rc)) := by
  obtain ⟨fd, F⟩ := t.def_ 15 (d := df__law_same)
  have hN : (N__law_same).Nodup := sc__law_same.nd
  refine okF F (t.glo 42) (F.bindsN (ps := ["got", "due"]) fun _ _ _ _ _ _ us hl => match us, hl with | [_, _], _ => rfl) .nil (fun _ => repL_nil) sc__law_same rfl fun cdv A ou s H E hr => ?_
  rw [bd__law_same, bd__law_same_1, bd__law_same_2, bd__law_same_3, bd__law_same_4, bd__law_same_5, bd__law_same_6, bd__law_same_7, bd__law_same_8]
  exact (ws_cons (w1_if (wt_cmp od_is (vL 1) we_non rfl) (ws_one (w1_ret (we_cmp od_is (vL 0) we_non rfl))) ws_nil)
  (ws_cons (w1_if (WW.wt (ww_or (wt_cmp od_is (vL 1) we_bl rfl) (ww_or1 (wt_cmp od_is (vL 1) we_bl rfl)))) (ws_one (w1_ret (we_and (we_callB call_isi (rd_isi (itab_ok t)) rfl (t.free 38) bb_isinstance (wa_cons (vL 0) (wa_cons (we_gty rfl (t.free 39) bb_bool) wa_nil))) (we_one (we_cmp od_eqS (vL 0) (vL 1) rfl))))) ws_nil)
  (ws_cons (w1_if (wt_val (we_callB call_isi (rd_isi (itab_ok t)) rfl (t.free 38) bb_isinstance (wa_cons (vL 1) (wa_cons (we_gty rfl (t.free 3) bb_int) wa_nil)))) (ws_one (w1_ret (we_and (we_call ((ok__law_is_int t).mono (Nat.le_trans (by decide) hk)) hr rfl (wa_cons (vL 0) wa_nil)) (we_one (we_cmp od_eqS (vL 0) (vL 1) rfl))))) ws_nil)
  (ws_cons (w1_if (wt_val (we_callB call_isi (rd_isi (itab_ok t)) rfl (t.free 38) bb_isinstance (wa_cons (vL 1) (wa_cons (we_gty rfl (t.free 41) bb_str) wa_nil)))) (ws_one (w1_ret (we_and (we_callB call_isi (rd_isi (itab_ok t)) rfl (t.free 38) bb_isinstance (wa_cons (vL 0) (wa_cons (we_gty rfl (t.free 41) bb_str) wa_nil))) (we_one (we_cmp od_eqS (vL 0) (vL 1) rfl))))) ws_nil)
  (ws_cons (w1_if (WW.wt (ww_and (wt_val (we_callB call_isi (rd_isi (itab_ok t)) rfl (t.free 38) bb_isinstance (wa_cons (vL 1) (wa_cons (we_gty rfl (t.free 14) bb_tuple) wa_nil)))) (ww_and1 (wt_not (wt_val (we_callB call_isi (rd_isi (itab_ok t)) rfl (t.free 38) bb_isinstance (wa_cons (vL 0) (wa_cons (we_gty rfl (t.free 14) bb_tuple) wa_nil)))))))) (ws_one (w1_ret we_bl)) ws_nil)
  (ws_cons (w1_if (WW.wt (ww_and (wt_val (we_callB call_isi (rd_isi (itab_ok t)) rfl (t.free 38) bb_isinstance (wa_cons (vL 1) (wa_cons (we_gty rfl (t.free 12) bb_list) wa_nil)))) (ww_and1 (wt_not (wt_val (we_callB call_isi (rd_isi (itab_ok t)) rfl (t.free 38) bb_isinstance (wa_cons (vL 0) (wa_cons (we_gty rfl (t.free 12) bb_list) wa_nil)))))))) (ws_one (w1_ret we_bl)) ws_nil)
  (ws_cons (w1_if (wt_cmp od_neS (we_callB call_len rd_len rfl (t.free 0) bb_len (wa_cons (vL 0) wa_nil)) (we_callB call_len rd_len rfl (t.free 0) bb_len (wa_cons (vL 1) wa_nil)) rfl) (ws_one (w1_ret we_bl)) ws_nil)
  (ws_cons (w1_for (passes_of rfl) rfl (wi_rng1 rfl (t.free 7) (we_callB call_len rd_len rfl (t.free 0) bb_len (wa_cons (vL 1) wa_nil))) (wg_name (i := 2) hN rfl (Or.inl rfl)) (ws_one (w1_if (wt_not (wt_tr (we_call ih hr rfl (wa_cons (we_ix (vL 0) (vL 2) (fun _ _ => rfl)) (wa_cons (we_ix (vL 1) (vL 2) (fun _ _ => rfl)) wa_nil))))) (ws_one (w1_ret we_bl)) ws_nil)))
  (ws_one (w1_ret we_bl))))))))))
theorem ok__law_same {P : Program} {w : World} {K : PySem.W.Frag} {mg : Str → Option Value} {base : Heap} (t : Txt P fs fn K mg) : ∀ fu : Nat, OkF P w K mg base (5 + fu) "_law_same" 2 [] (dn__law_same fu)
  | 0 => by
    obtain ⟨fd, F⟩ := t.def_ 15 (d := df__law_same)
    exact okF_no F (t.glo 42) (F.bindsN (ps := ["got", "due"]) fun _ _ _ _ _ _ us hl => match us, hl with | [_, _], _ => rfl)
  | fu + 1 => st__law_same t (k := 5 + fu) (by omega) (ok__law_same t fu)
/-! _law_by_base -/
theorem sc__law_by_base : FnScope N__law_by_base ["row", "way"] df__law_by_base.scope := ⟨rfl, rfl, rfl, by decide +kernel, rfl, by decide +kernel, by decide +kernel⟩
theorem ok__law_by_base {P : Program} {w : World} {K : PySem.W.Frag} {mg : Str → Option Value} {base : Heap} (t : Txt P fs fn K mg) : OkF P w K mg base 9 "_law_by_base" 2 [] dn__law_by_base := by
  obtain ⟨fd, F⟩ := t.def_ 16 (d := df__law_by_base)
  have hN : (N__law_by_base).Nodup := sc__law_by_base.nd
  refine okF F (t.glo 49) (F.bindsN (ps := ["row", "way"]) fun _ _ _ _ _ _ us hl => match us, hl with | [_, _], _ => rfl) .nil (fun _ => repL_nil) sc__law_by_base rfl fun cdv A ou s H E hr => ?_
  rw [bd__law_by_base, bd__law_by_base_1, bd__law_by_base_2]
  exact (ws_cons (w1_asg (i := 2) hN rfl (Or.inl rfl) (we_tup wa_nil))
  (ws_cons (w1_tryAs (i := 3) rfl rfl hN rfl rfl (names_cls rfl (t.glo 48)) ⟨(t.exm 43), trivial⟩ (fun pn xe hp => (ws_one (w1_expr (we_call ((ok__law_called t).mono (by decide)) hr rfl (wa_cons (vL 0) (wa_cons (vL 1) wa_nil)))))) (fun p oe d pn x hz hv hn => (ws_one (w1_asg (i := 2) hN rfl (Or.inl rfl) (we_tup (wa_cons (we_coB (cd_isiX (etab_ok t) hz hv hn) rfl (t.free 38) bb_isinstance (wa_cons (vL 3) (wa_cons (we_gcls rfl (t.glo 47)) wa_nil))) (wa_cons (we_coB (cd_isiX (etab_ok t) hz hv hn) rfl (t.free 38) bb_isinstance (wa_cons (vL 3) (wa_cons (we_gty rfl (t.free 46) bb_ValueError) wa_nil))) (wa_cons (we_coB (cd_isiX (etab_ok t) hz hv hn) rfl (t.free 38) bb_isinstance (wa_cons (vL 3) (wa_cons (we_gcls rfl (t.glo 45)) wa_nil))) (wa_cons (we_coB (cd_isiX (etab_ok t) hz hv hn) rfl (t.free 38) bb_isinstance (wa_cons (vL 3) (wa_cons (we_gcls rfl (t.glo 44)) wa_nil))) wa_nil)))))))))
  (ws_one (w1_ret (we_cmp (od_eqD hr.units) (vL 2) (we_tup (wa_cons we_bl (wa_cons we_bl (wa_cons we_bl (wa_cons we_bl wa_nil))))) rfl)))))
/-! _law_told -/
theorem sc__law_told : FnScope N__law_told ["phase"] df__law_told.scope := ⟨rfl, rfl, rfl, by decide +kernel, rfl, by decide +kernel, by decide +kernel⟩
theorem ok__law_told {P : Program} {w : World} {K : PySem.W.Frag} {mg : Str → Option Value} {base : Heap} (t : Txt P fs fn K mg) : OkF P w K mg base 4 "_law_told" 1 [] dn__law_told := by
  obtain ⟨fd, F⟩ := t.def_ 17 (d := df__law_told)
  have hN : (N__law_told).Nodup := sc__law_told.nd
  refine okF F (t.glo 50) (F.bindsN (ps := ["phase"]) fun _ _ _ _ _ _ us hl => match us, hl with | [_], _ => rfl) .nil (fun _ => repL_nil) sc__law_told rfl fun cdv A ou s H E hr => ?_
  rw [bd__law_told]
  exact (ws_one (w1_ret (we_tup (wa_cons (we_fld ⟨⟨(t.cls 25), (t.noat 32)⟩, trivial⟩ (vL 0)) (wa_cons (we_fld ⟨⟨(t.cls 25), (t.noat 31)⟩, trivial⟩ (vL 0)) (wa_cons (we_fld ⟨⟨(t.cls 25), (t.noat 30)⟩, trivial⟩ (vL 0)) (wa_cons (we_fld ⟨⟨(t.cls 25), (t.noat 29)⟩, trivial⟩ (vL 0)) (wa_cons (we_fld ⟨⟨(t.cls 25), (t.noat 28)⟩, trivial⟩ (vL 0)) (wa_cons (we_fld ⟨⟨(t.cls 25), (t.noat 27)⟩, trivial⟩ (vL 0)) (wa_cons (we_fld ⟨⟨(t.cls 25), (t.noat 26)⟩, trivial⟩ (vL 0)) wa_nil))))))))))
/-! _law_down -/
theorem sc__law_down : FnScope N__law_down ["row"] df__law_down.scope := ⟨rfl, rfl, rfl, by decide +kernel, rfl, by decide +kernel, by decide +kernel⟩
theorem ok__law_down {P : Program} {w : World} {K : PySem.W.Frag} {mg : Str → Option Value} {base : Heap} (t : Txt P fs fn K mg) : OkF P w K mg base 4 "_law_down" 1 [] dn__law_down := by
  obtain ⟨fd, F⟩ := t.def_ 18 (d := df__law_down)
  have hN : (N__law_down).Nodup := sc__law_down.nd
  refine okF F (t.glo 51) (F.bindsN (ps := ["row"]) fun _ _ _ _ _ _ us hl => match us, hl with | [_], _ => rfl) .nil (fun _ => repL_nil) sc__law_down rfl fun cdv A ou s H E hr => ?_
  rw [bd__law_down]
  exact (ws_one (w1_ret (we_lc (own := [("y", 1)]) fin_lst rfl hN (show BlkOk N__law_down df__law_down.scope _ [("y", 1)] from ⟨rfl, by decide +kernel, by decide +kernel, by decide +kernel, by decide +kernel⟩) (wi_rng1 rfl (t.free 7) we_int) (by decide) (fun _ _ _ _ _ => (wg_name (i := 1) hN rfl (Or.inl rfl))) (fun _ _ _ _ _ => (wc_one (wt_cmp od_in (we_bin od_sub we_int (vL 1)) (vC 0) rfl))) (fun _ _ _ _ _ => (we_bin od_sub we_int (vL 1))))))
/-! _law_other -/
theorem sc__law_other : FnScope N__law_other ["due", "part", "x"] df__law_other.scope := ⟨rfl, rfl, rfl, by decide +kernel, rfl, by decide +kernel, by decide +kernel⟩
theorem ok__law_other {P : Program} {w : World} {K : PySem.W.Frag} {mg : Str → Option Value} {base : Heap} (t : Txt P fs fn K mg) : OkF P w K mg base 4 "_law_other" 3 [] dn__law_other := by
  obtain ⟨fd, F⟩ := t.def_ 19 (d := df__law_other)
  have hN : (N__law_other).Nodup := sc__law_other.nd
  refine okF F (t.glo 52) (F.bindsN (ps := ["due", "part", "x"]) fun _ _ _ _ _ _ us hl => match us, hl with | [_, _, _], _ => rfl) .nil (fun _ => repL_nil) sc__law_other rfl fun cdv A ou s H E hr => ?_
  rw [bd__law_other, bd__law_other_1, bd__law_other_2]
  exact (ws_cons (w1_asg (i := 3) hN rfl (Or.inl rfl) (we_callTy call_list_of rd_listM rfl (t.free 12) bb_list (wa_cons (vC 0) wa_nil)))
  (ws_cons (w1_if (WW.wt (ww_or (wt_cmp od_eqS (vC 1) we_int rfl) (ww_or (wt_cmp od_eqS (vC 1) we_int rfl) (ww_or1 (wt_cmp od_eqS (vC 1) we_int rfl))))) (ws_one (w1_sub (vL 3) (vC 1) (we_lc (own := [("y", 4)]) fin_lst rfl hN (show BlkOk N__law_other df__law_other.scope _ [("y", 4)] from ⟨rfl, by decide +kernel, by decide +kernel, by decide +kernel, by decide +kernel⟩) (wi_rng1 rfl (t.free 7) we_int) (by decide) (fun _ _ _ _ _ => (wg_name (i := 4) hN rfl (Or.inl rfl))) (fun _ _ _ _ _ => (wc_one (wt_cmp od_neS (we_cmp od_in (vL 4) (we_ix (vC 0) (vC 1) (fun _ _ => rfl)) rfl) (we_cmp od_eqS (vL 4) (vC 2) rfl) rfl))) (fun _ _ _ _ _ => (vL 4))) (fun _ _ => rfl) (fun ho hi hs => pg_sub ho hi hs))) (ws_one (w1_if (WW.wt (ww_and (wt_cmp od_eqS (vC 1) we_int rfl) (ww_and1 (wt_cmp od_gt (we_ix (vC 0) we_int (fun _ _ => rfl)) we_int rfl)))) (ws_one (w1_sub (vL 3) we_int (we_bin od_sub (we_ix (vC 0) we_int (fun _ _ => rfl)) we_int) (fun _ _ => rfl) (fun ho hi hs => pg_sub ho hi hs))) (ws_one (w1_if (WW.wt (ww_and (wt_cmp od_eqS (vC 1) we_int rfl) (ww_and1 (wt_cmp od_lt (we_ix (vC 0) we_int (fun _ _ => rfl)) (we_ix (vC 0) we_int (fun _ _ => rfl)) rfl)))) (ws_one (w1_sub (vL 3) we_int (we_bin od_add (we_ix (vC 0) we_int (fun _ _ => rfl)) we_int) (fun _ _ => rfl) (fun ho hi hs => pg_sub ho hi hs))) (ws_one (w1_if (WW.wt (ww_and (wt_cmp od_eqS (vC 1) we_int rfl) (ww_and1 (wt_cmp od_lt (we_ix (vC 0) we_int (fun _ _ => rfl)) we_int rfl)))) (ws_one (w1_sub (vL 3) we_int (we_bin od_add (we_ix (vC 0) we_int (fun _ _ => rfl)) we_int) (fun _ _ => rfl) (fun ho hi hs => pg_sub ho hi hs))) (ws_one (w1_if (WW.wt (ww_and (wt_cmp od_eqS (vC 1) we_int rfl) (ww_and1 (wt_cmp od_lt (we_ix (vC 0) we_int (fun _ _ => rfl)) (we_ix (vC 0) we_int (fun _ _ => rfl)) rfl)))) (ws_one (w1_sub (vL 3) we_int (we_bin od_sub (we_ix (vC 0) we_int (fun _ _ => rfl)) we_int) (fun _ _ => rfl) (fun ho hi hs => pg_sub ho hi hs))) (ws_one (w1_if (wt_cmp od_eqS (vC 1) we_int rfl) (ws_one (w1_sub (vL 3) we_int (we_not (we_ix (vC 0) we_int (fun _ _ => rfl))) (fun _ _ => rfl) (fun ho hi hs => pg_sub ho hi hs))) (ws_one (w1_sub (vL 3) we_int (we_bin od_mod (we_callTy call_int1 rd_int rfl (t.free 3) bb_int (wa_cons (we_bin od_add (we_ix (vC 0) we_int (fun _ _ => rfl)) we_int) wa_nil)) we_int) (fun _ _ => rfl) (fun ho hi hs => pg_sub ho hi hs))))))))))))))
  (ws_one (w1_ret (vL 3)))))
/-! Phase.__eq__ -/
theorem sc_Phase_eq_d : FnScope N_Phase_eq_d ["self", "other"] df_Phase_eq_d.scope := ⟨rfl, rfl, rfl, by decide +kernel, rfl, by decide +kernel, by decide +kernel⟩
theorem ok_Phase_eq_d {P : Program} {w : World} {K : PySem.W.Frag} {mg : Str → Option Value} {base : Heap} (t : Txt P fs fn K mg) : OkM P w K mg base 4 "Phase" "__eq__" 2 [] dn_Phase_eq_d := by
  obtain ⟨fd, F⟩ := t.def_ 20 (d := df_Phase_eq_d)
  have hN : (N_Phase_eq_d).Nodup := sc_Phase_eq_d.nd
  refine okM F (t.cls 25) (t.meth 53) (F.bindsN (ps := ["self", "other"]) fun _ _ _ _ _ _ us hl => match us, hl with | [_, _], _ => rfl) .nil (fun _ => repL_nil) sc_Phase_eq_d rfl fun cdv A ou s H E hr => ?_
  rw [bd_Phase_eq_d]
  exact (ws_one (w1_ret (we_and (we_callB call_isi (rd_isi (itab_ok t)) rfl (t.free 38) bb_isinstance (wa_cons (vL 1) (wa_cons (we_gcls rfl (t.glo 33)) wa_nil))) (we_and (we_cmp (od_eqD hr.units) (we_fld ⟨⟨(t.cls 25), (t.noat 32)⟩, trivial⟩ (vL 0)) (we_fld ⟨⟨(t.cls 25), (t.noat 32)⟩, trivial⟩ (vL 1)) rfl) (we_and (we_cmp od_eqS (we_fld ⟨⟨(t.cls 25), (t.noat 31)⟩, trivial⟩ (vL 0)) (we_fld ⟨⟨(t.cls 25), (t.noat 31)⟩, trivial⟩ (vL 1)) rfl) (we_and (we_cmp od_eqS (we_fld ⟨⟨(t.cls 25), (t.noat 30)⟩, trivial⟩ (vL 0)) (we_fld ⟨⟨(t.cls 25), (t.noat 30)⟩, trivial⟩ (vL 1)) rfl) (we_and (we_cmp od_eqS (we_fld ⟨⟨(t.cls 25), (t.noat 29)⟩, trivial⟩ (vL 0)) (we_fld ⟨⟨(t.cls 25), (t.noat 29)⟩, trivial⟩ (vL 1)) rfl) (we_and (we_cmp (od_eqD hr.units) (we_fld ⟨⟨(t.cls 25), (t.noat 28)⟩, trivial⟩ (vL 0)) (we_fld ⟨⟨(t.cls 25), (t.noat 28)⟩, trivial⟩ (vL 1)) rfl) (we_and (we_cmp (od_eqD hr.units) (we_fld ⟨⟨(t.cls 25), (t.noat 27)⟩, trivial⟩ (vL 0)) (we_fld ⟨⟨(t.cls 25), (t.noat 27)⟩, trivial⟩ (vL 1)) rfl) (we_one (we_cmp od_eqS (we_fld ⟨⟨(t.cls 25), (t.noat 26)⟩, trivial⟩ (vL 0)) (we_fld ⟨⟨(t.cls 25), (t.noat 26)⟩, trivial⟩ (vL 1)) rfl)))))))))))
/-! _law_equal_right -/
theorem sc__law_equal_right : FnScope N__law_equal_right ["made", "due", "part", "x"] df__law_equal_right.scope := ⟨rfl, rfl, rfl, by decide +kernel, rfl, by decide +kernel, by decide +kernel⟩
theorem ok__law_equal_right {P : Program} {w : World} {K : PySem.W.Frag} {mg : Str → Option Value} {base : Heap} (t : Txt P fs fn K mg) : OkF P w K mg base 9 "_law_equal_right" 4 [] dn__law_equal_right := by
  obtain ⟨fd, F⟩ := t.def_ 21 (d := df__law_equal_right)
  have hN : (N__law_equal_right).Nodup := sc__law_equal_right.nd
  refine okF F (t.glo 54) (F.bindsN (ps := ["made", "due", "part", "x"]) fun _ _ _ _ _ _ us hl => match us, hl with | [_, _, _, _], _ => rfl) .nil (fun _ => repL_nil) sc__law_equal_right rfl fun cdv A ou s H E hr => ?_
  rw [bd__law_equal_right, bd__law_equal_right_1, bd__law_equal_right_2, bd__law_equal_right_3]
  exact (ws_cons (w1_asg (i := 4) hN rfl (Or.inl rfl) (we_call ((ok__law_called t).mono (by decide)) hr rfl (wa_cons (we_lst (wa_cons (we_call ((ok__law_down t).mono (by decide)) hr rfl (wa_cons (we_ix (vL 1) we_int (fun _ _ => rfl)) wa_nil)) (wa_cons (we_ix (vL 1) we_int (fun _ _ => rfl)) (wa_cons (we_ix (vL 1) we_int (fun _ _ => rfl)) (wa_cons (we_ix (vL 1) we_int (fun _ _ => rfl)) (wa_cons (we_call ((ok__law_down t).mono (by decide)) hr rfl (wa_cons (we_ix (vL 1) we_int (fun _ _ => rfl)) wa_nil)) (wa_cons (we_call ((ok__law_down t).mono (by decide)) hr rfl (wa_cons (we_ix (vL 1) we_int (fun _ _ => rfl)) wa_nil)) (wa_cons (we_ix (vL 1) we_int (fun _ _ => rfl)) wa_nil)))))))) (wa_cons we_int wa_nil))))
  (ws_cons (w1_asg (i := 5) hN rfl (Or.inl rfl) (we_call ((ok__law_called t).mono (by decide)) hr rfl (wa_cons (we_call ((ok__law_other t).mono (by decide)) hr rfl (wa_cons (vL 1) (wa_cons (vL 2) (wa_cons (vL 3) wa_nil)))) (wa_cons we_int wa_nil))))
  (ws_cons (w1_if (WW.wt (ww_or (wt_cmp od_isNot (we_cmp (OpD.or od_eqS (od_ownEq (m := "__eq__") (t := [("Phase", 2, [], dn_Phase_eq_d)]) ⟨(ok_Phase_eq_d t |>.mono (by decide)), (trivial)⟩ hr)) (vL 0) (vL 4) rfl) we_bl rfl) (ww_or1 (wt_cmp od_isNot (we_cmp (OpD.or od_eqS (od_ownEq (m := "__eq__") (t := [("Phase", 2, [], dn_Phase_eq_d)]) ⟨(ok_Phase_eq_d t |>.mono (by decide)), (trivial)⟩ hr)) (vL 4) (vL 0) rfl) we_bl rfl)))) (ws_one (w1_ret we_bl)) ws_nil)
  (ws_one (w1_ret (we_and (we_cmp od_is (we_cmp (OpD.or od_eqS (od_ownEq (m := "__eq__") (t := [("Phase", 2, [], dn_Phase_eq_d)]) ⟨(ok_Phase_eq_d t |>.mono (by decide)), (trivial)⟩ hr)) (vL 0) (vL 5) rfl) we_bl rfl) (we_one (we_cmp od_is (we_cmp (OpD.or od_eqS (od_ownEq (m := "__eq__") (t := [("Phase", 2, [], dn_Phase_eq_d)]) ⟨(ok_Phase_eq_d t |>.mono (by decide)), (trivial)⟩ hr)) (vL 5) (vL 0) rfl) we_bl rfl))))))))
/-! _law_asked -/
theorem sc__law_asked : FnScope N__law_asked ["args", "way", "lists", "part", "x"] df__law_asked.scope := ⟨rfl, rfl, rfl, by decide +kernel, rfl, by decide +kernel, by decide +kernel⟩
theorem ok__law_asked {P : Program} {w : World} {K : PySem.W.Frag} {mg : Str → Option Value} {base : Heap} (t : Txt P fs fn K mg) : OkF P w K mg base 10 "_law_asked" 5 [] dn__law_asked := by
  obtain ⟨fd, F⟩ := t.def_ 22 (d := df__law_asked)
  have hN : (N__law_asked).Nodup := sc__law_asked.nd
  refine okF F (t.glo 57) (F.bindsN (ps := ["args", "way", "lists", "part", "x"]) fun _ _ _ _ _ _ us hl => match us, hl with | [_, _, _, _, _], _ => rfl) .nil (fun _ => repL_nil) sc__law_asked rfl fun cdv A ou s H E hr => ?_
  rw [bd__law_asked, bd__law_asked_1, bd__law_asked_2, bd__law_asked_3, bd__law_asked_4, bd__law_asked_5, bd__law_asked_6, bd__law_asked_7, bd__law_asked_8, bd__law_asked_9, bd__law_asked_10, bd__law_asked_11, bd__law_asked_12, bd__law_asked_13, bd__law_asked_14, bd__law_asked_15]
  exact (ws_cons (w1_asg (i := 5) hN rfl (Or.inl rfl) (we_call ((ok__law_filled t).mono (by decide)) hr rfl (wa_cons (vL 0) (wa_cons (vL 1) wa_nil))))
  (ws_cons (w1_asg (i := 6) hN rfl (Or.inl rfl) (we_call ((ok__law_wrong t).mono (by decide)) hr rfl (wa_cons (vL 5) wa_nil)))
  (ws_cons (w1_asg (i := 7) hN rfl (Or.inl rfl) (we_call ((ok__law_handed t).mono (by decide)) hr rfl (wa_cons (vL 0) (wa_cons (vL 2) wa_nil))))
  (ws_cons (w1_asg (i := 8) hN rfl (Or.inl rfl) we_bl)
  (ws_cons (w1_asg (i := 9) hN rfl (Or.inl rfl) we_non)
  (ws_cons (w1_asg (i := 10) hN rfl (Or.inl rfl) we_non)
  (ws_cons (w1_tryAs (i := 11) rfl rfl hN rfl rfl (names_cls rfl (t.glo 47)) ⟨(t.exm 55), trivial⟩ (fun pn xe hp => (ws_one (w1_asg (i := 10) hN rfl (Or.inl rfl) (we_call ((ok__law_called t).mono (by decide)) hr rfl (wa_cons (vL 7) (wa_cons (vL 1) wa_nil)))))) (fun p oe d pn x hz hv hn => (ws_cons (w1_asg (i := 8) hN rfl (Or.inl rfl) we_bl)
  (ws_one (w1_asg (i := 9) hN rfl (Or.inl rfl) (we_xf ⟨(t.xft 56), trivial⟩ hz hv (vL 11)))))))
  (ws_cons (w1_if (wt_not (wt_tr (we_call ((ok__law_same t 4).mono (by decide)) hr rfl (wa_cons (vL 7) (wa_cons (we_call ((ok__law_handed t).mono (by decide)) hr rfl (wa_cons (vL 0) (wa_cons (vL 2) wa_nil))) wa_nil))))) (ws_one (w1_ret we_bl)) ws_nil)
  (ws_cons (w1_if (wt_cmp od_isNot (vL 6) we_non rfl) (ws_one (w1_ret (we_and (vL 8) (we_and (we_call ((ok__law_same t 4).mono (by decide)) hr rfl (wa_cons (vL 9) (wa_cons (vL 6) wa_nil))) (we_one (we_call ((ok__law_by_base t).mono (by decide)) hr rfl (wa_cons (vL 7) (wa_cons (vL 1) wa_nil)))))))) ws_nil)
  (ws_cons (w1_if (wt_val (vL 8)) (ws_one (w1_ret we_bl)) ws_nil)
  (ws_cons (w1_asg (i := 12) hN rfl (Or.inl rfl) (we_ix (vL 5) we_int (fun _ _ => rfl)))
  (ws_cons (w1_if (wt_cmp od_is (vL 12) we_non rfl) (ws_one (w1_asg (i := 12) hN rfl (Or.inl rfl) (we_ix (vL 5) we_int (fun _ _ => rfl)))) ws_nil)
  (ws_cons (w1_asg (i := 13) hN rfl (Or.inl rfl) (we_tup (wa_cons (we_call ((ok__law_up t).mono (by decide)) hr rfl (wa_cons (we_ix (vL 5) we_int (fun _ _ => rfl)) wa_nil)) (wa_cons (we_ix (vL 5) we_int (fun _ _ => rfl)) (wa_cons (vL 12) (wa_cons (we_ix (vL 5) we_int (fun _ _ => rfl)) (wa_cons (we_call ((ok__law_up t).mono (by decide)) hr rfl (wa_cons (we_ix (vL 5) we_int (fun _ _ => rfl)) wa_nil)) (wa_cons (we_call ((ok__law_up t).mono (by decide)) hr rfl (wa_cons (we_ix (vL 5) we_int (fun _ _ => rfl)) wa_nil)) (wa_cons (we_ix (vL 5) we_int (fun _ _ => rfl)) wa_nil)))))))))
  (ws_cons (w1_if (wt_not (wt_tr (we_call ((ok__law_same t 4).mono (by decide)) hr rfl (wa_cons (we_call ((ok__law_told t).mono (by decide)) hr rfl (wa_cons (vL 10) wa_nil)) (wa_cons (vL 13) wa_nil))))) (ws_one (w1_ret we_bl)) ws_nil)
  (ws_cons (w1_if (wt_tr (vL 2)) (ws_one (w1_for (passes_of rfl) rfl (wi_any (its_ok t) (hr.mono (by decide)) (we_tup (wa_cons we_int (wa_cons we_int (wa_cons we_int wa_nil))))) (wg_name (i := 14) hN rfl (Or.inl rfl)) (ws_cons (w1_expr (we_append (we_ix (vL 7) (vL 14) (fun _ _ => rfl)) (vL 4)))
  (ws_one (w1_expr (we_reverse (we_ix (vL 7) (vL 14) (fun _ _ => rfl)))))))) ws_nil)
  (ws_one (w1_ret (we_and (we_call ((ok__law_same t 4).mono (by decide)) hr rfl (wa_cons (we_call ((ok__law_told t).mono (by decide)) hr rfl (wa_cons (vL 10) wa_nil)) (wa_cons (vL 13) wa_nil))) (we_one (we_call ((ok__law_equal_right t).mono (by decide)) hr rfl (wa_cons (vL 10) (wa_cons (vL 13) (wa_cons (vL 3) (wa_cons (vL 4) wa_nil))))))))))))))))))))))))
/-! _law_mended -/
theorem sc__law_mended : FnScope N__law_mended ["args"] df__law_mended.scope := ⟨rfl, rfl, rfl, by decide +kernel, rfl, by decide +kernel, by decide +kernel⟩
theorem ok__law_mended {P : Program} {w : World} {K : PySem.W.Frag} {mg : Str → Option Value} {base : Heap} (t : Txt P fs fn K mg) : OkF P w K mg base 5 "_law_mended" 1 [] dn__law_mended := by
  obtain ⟨fd, F⟩ := t.def_ 23 (d := df__law_mended)
  have hN : (N__law_mended).Nodup := sc__law_mended.nd
  refine okF F (t.glo 58) (F.bindsN (ps := ["args"]) fun _ _ _ _ _ _ us hl => match us, hl with | [_], _ => rfl) .nil (fun _ => repL_nil) sc__law_mended rfl fun cdv A ou s H E hr => ?_
  rw [bd__law_mended, bd__law_mended_1, bd__law_mended_2, bd__law_mended_3, bd__law_mended_4]
  exact (ws_cons (w1_asg (i := 1) hN rfl (Or.inl rfl) (we_callB (call_max2 rfl) rd_max2 rfl (t.free 9) bb_max (wa_cons we_int (wa_cons (we_callB (call_min2 rfl) rd_min2 rfl (t.free 10) bb_min (wa_cons we_int (wa_cons (we_ix (vL 0) we_int (fun _ _ => rfl)) wa_nil))) wa_nil))))
  (ws_cons (w1_asg (i := 2) hN rfl (Or.inl rfl) (we_ix (vL 0) we_int (fun _ _ => rfl)))
  (ws_cons (w1_if (wt_cmp od_isNot (vL 2) we_non rfl) (ws_one (w1_asg (i := 2) hN rfl (Or.inl rfl) (we_callB (call_max2 rfl) rd_max2 rfl (t.free 9) bb_max (wa_cons (vL 1) (wa_cons (we_callB (call_min2 rfl) rd_min2 rfl (t.free 10) bb_min (wa_cons we_int (wa_cons (vL 2) wa_nil))) wa_nil))))) ws_nil)
  (ws_cons (w1_asg (i := 3) hN rfl (Or.inl rfl) (we_callB (call_max2 rfl) rd_max2 rfl (t.free 9) bb_max (wa_cons we_int (wa_cons (we_callB (call_min2 rfl) rd_min2 rfl (t.free 10) bb_min (wa_cons we_int (wa_cons (we_ix (vL 0) we_int (fun _ _ => rfl)) wa_nil))) wa_nil))))
  (ws_one (w1_ret (we_lst (wa_cons (we_call ((ok__law_down t).mono (by decide)) hr rfl (wa_cons (we_ix (vL 0) we_int (fun _ _ => rfl)) wa_nil)) (wa_cons (vL 1) (wa_cons (vL 2) (wa_cons (vL 3) (wa_cons (we_call ((ok__law_down t).mono (by decide)) hr rfl (wa_cons (we_ix (vL 0) we_int (fun _ _ => rfl)) wa_nil)) (wa_cons (we_call ((ok__law_down t).mono (by decide)) hr rfl (wa_cons (we_ix (vL 0) we_int (fun _ _ => rfl)) wa_nil)) (wa_cons (we_ix (vL 0) we_int (fun _ _ => rfl)) wa_nil))))))))))))))
/-! law -/
theorem sc_law : FnScope N_law ["script"] df_law.scope := ⟨rfl, rfl, rfl, by decide +kernel, rfl, by decide +kernel, by decide +kernel⟩
theorem law_ok {P : Program} {w : World} {K : PySem.W.Frag} {mg : Str → Option Value} (t : Txt P fs fn K mg) : ∃ fd, mg "law" = some (.ref (adD K df_law)) ∧ (∀ (s : Shared) (u : Value), BindsTo s fd ⟨[u], []⟩ [("script", u)]) ∧ ∀ base : Heap, FnOk P w K mg base (L2.CX P w) 11 (adD K df_law) fd ["script"] (lift K 1 dn_law) := by
  obtain ⟨fd, F⟩ := t.def_ 24 (d := df_law)
  have hN : (N_law).Nodup := sc_law.nd
  have bA := FunD.bindsA (ps := ["script"]) F fun _ _ _ _ _ _ us hl => match us, hl with | [_], _ => rfl
  refine ⟨fd, (t.glo 59), fun s u => bA s [u] rfl, fun base => fn_ok (N := N_law) F sc_law rfl fun cdv A ou s H E hr => ?_⟩
  rw [bd_law, bd_law_1, bd_law_2, bd_law_3, bd_law_4, bd_law_5, bd_law_6, bd_law_7, bd_law_8]
  exact (ws_cons (w1_asg (i := 1) hN rfl (Or.inl rfl) (we_call ((ok__law_args t).mono (by decide)) hr rfl (wa_cons (vL 0) wa_nil)))
  (ws_cons (w1_asg (i := 2) hN rfl (Or.inl rfl) (we_call ((ok__law_hand t).mono (by decide)) hr rfl (wa_cons (vL 0) (wa_cons we_int wa_nil))))
  (ws_cons (w1_asg (i := 3) hN rfl (Or.inl rfl) (we_call ((ok__law_take t).mono (by decide)) hr rfl (wa_cons (vL 2) (wa_cons we_int wa_nil))))
  (ws_cons (w1_asg (i := 4) hN rfl (Or.inl rfl) (we_cmp od_gt (we_call ((ok__law_take t).mono (by decide)) hr rfl (wa_cons (vL 2) (wa_cons we_int wa_nil))) we_int rfl))
  (ws_cons (w1_asg (i := 5) hN rfl (Or.inl rfl) (we_call ((ok__law_take t).mono (by decide)) hr rfl (wa_cons (vL 2) (wa_cons we_int wa_nil))))
  (ws_cons (w1_asg (i := 6) hN rfl (Or.inl rfl) (we_call ((ok__law_take t).mono (by decide)) hr rfl (wa_cons (vL 2) (wa_cons we_int wa_nil))))
  (ws_cons (w1_if (wt_not (wt_tr (we_call ((ok__law_asked t).mono (by decide)) hr rfl (wa_cons (vL 1) (wa_cons (vL 3) (wa_cons (vL 4) (wa_cons (vL 5) (wa_cons (vL 6) wa_nil)))))))) (ws_one (w1_ret we_bl)) ws_nil)
  (ws_cons (w1_if (wt_not (wt_tr (we_call ((ok__law_asked t).mono (by decide)) hr rfl (wa_cons (we_call ((ok__law_mended t).mono (by decide)) hr rfl (wa_cons (vL 1) wa_nil)) (wa_cons we_int (wa_cons (vL 4) (wa_cons (vL 5) (wa_cons (vL 6) wa_nil)))))))) (ws_one (w1_ret we_bl)) ws_nil)
  (ws_one (w1_ret (we_call ((ok__law_asked t).mono (by decide)) hr rfl (wa_cons (vL 1) (wa_cons (vL 3) (wa_cons (vL 4) (wa_cons (vL 5) (wa_cons (vL 6) wa_nil))))))))))))))))
abbrev hk : PySem.W.Hook := hookK 5 fs fn
def ob (s : PySem.W.SharedT) : He.AlD := obsKG 5 fs fn (HandSHeadRun.getT s)
theorem ob_eq (s : PySem.W.SharedT) : ob s = hk.obs s.abs := obsKG_eq (HandSHeadRun.getT_eq s)
abbrev R : PySem.W.OpenRow := PySem.W.OpenLaw.row PySem.Challenge.rw_crossinglights_k48_phase_kept
theorem run (w : World) : HandSHeadRun.RunEq R (PySem.W.view R.prog [33]) hk ob 20000 ["LightsError", "BadBook", "BadPhase", "BadLane", "LAST_STREAM", "MOST_GREEN", "MOST_PAUSE", "are_streams", "check_phase", "Phase", "_law_cell", "_law_hand", "_law_take", "_law_is_int", "_law_same", "_law_streams", "_law_number", "_law_args", "_law_down", "_law_up", "_law_mended", "_law_filled", "_law_wrong", "_law_handed", "_law_called", "_law_by_base", "_law_told", "_law_other", "_law_equal_right", "_law_asked"] w := by
  intro os
  kernel_rfl

end Tk48
open PySem PySem.W PySem.Calls PyProof.Rows in
theorem Tk48.head (hlaw : DL.LawD Tk48.dn_law) : PySem.Challenge.rw_crossinglights_k48_phase_kept.Holds := by
  w_on; o_law
  refine HandSHeadRun.head_any (r := OpenLaw.row PySem.Challenge.rw_crossinglights_k48_phase_kept) (q := view (OpenLaw.row PySem.Challenge.rw_crossinglights_k48_phase_kept).prog [33]) (H := Tk48.hk) (ob := Tk48.ob) (M := 20000) (loose := ["LightsError", "BadBook", "BadPhase", "BadLane", "LAST_STREAM", "MOST_GREEN", "MOST_PAUSE", "are_streams", "check_phase", "Phase", "_law_cell", "_law_hand", "_law_take", "_law_is_int", "_law_same", "_law_streams", "_law_number", "_law_args", "_law_down", "_law_up", "_law_mended", "_law_filled", "_law_wrong", "_law_handed", "_law_called", "_law_by_base", "_law_told", "_law_other", "_law_equal_right", "_law_asked"]) (d := HandSHeadRun.topDef (OpenLaw.row PySem.Challenge.rw_crossinglights_k48_phase_kept).prog 33) (kwd := []) Tk48.ob_eq
    (by kernel_rfl) (fun s => by kernel_rfl) Tk48.run (by kernel_rfl) (by kernel_rfl) (by kernel_rfl) (by rfl) (by first | assumption | decide +kernel) (by decide +kernel) ⟨rfl, rfl, rfl, rfl, rfl, by decide +kernel⟩ ?hw ?hc
  case hw => w_witness2
  case hc =>
    refine L2.walk_ofE (l := PySem.Challenge.rw_crossinglights_k48_phase_kept) (n := 63) (k := 11) (x := "script") (CX := L2.CX0) rfl (by decide) (by kernel_rfl) ⟨rfl, by decide, by decide⟩ ?F (fun _ _ _ _ z => z)
    intro w mg f h Y G hmg0
    obtain ⟨K, KX, c⟩ := Y
    have t : DL.Txt (PySem.Challenge.rw_crossinglights_k48_phase_kept).prog Tk48.fs Tk48.fn K mg := ⟨c, ⟨h, KX, G⟩, ⟨by first | rfl | kernel_rfl, by first | rfl | kernel_rfl⟩⟩
    have hmg : mg ("law" : PySem.Str) = some (.ref f) := by
      have e : (HandSHeadRun.topDef (OpenLaw.row PySem.Challenge.rw_crossinglights_k48_phase_kept).prog 33).name = ("law" : PySem.Str) := by kernel_rfl
      rw [← e]
      exact hmg0
    obtain ⟨fd, e, hb, hF⟩ := Tk48.law_ok (P := (PySem.Challenge.rw_crossinglights_k48_phase_kept).prog) (w := w) t
    have e2 := hmg.symm.trans e
    cases e2
    exact ⟨K, fd, fun vs H Q _ => DL.lift K 1 Tk48.dn_law vs H Q (fun _ _ _ => False), KX, hb, fun H a ns hl _ hS => DL.law_lift hlaw hl hS, fun base _ _ => DL.law_cx0 (hF base)⟩

namespace Tk48
open PySem PySem.Spec PyProof.Rows L2 DL
/-! ### the law's helpers -/
def Hand (ds : List D) : Prop := ∃ a b c d : Int, ds = [.int a, .int b, .int c, .int d]
theorem take_ok {M : Ms} {k : DK} {kx : DX} {i : Nat} {hs : List D} {many : Int} (hM : M[i]? = some (.ml hs)) (hh : Hand hs) (h0 : 0 < many) (h1 : many < 18446744073709551616)
    (hk : ∀ r h', 0 ≤ r → r < many → Hand h' → k (.int r) (M.set i (.ml h'))) : dn__law_take [.cell i, .int many] M k kx := by
  obtain ⟨a, b, c, d, rfl⟩ := hh
  have hi : i < M.length := (List.getElem?_eq_some_iff.mp hM).1
  have m1 : ∀ z : Int, -18446744073709551616 < z % 2147483647 ∧ z % 2147483647 < 18446744073709551616 := fun z => by omega
  have m2 : ∀ z : Int, -18446744073709551616 < z % 2147483399 ∧ z % 2147483399 < 18446744073709551616 := fun z => by omega
  simp only [dn__law_take, bd__law_take]
  simp [fIx, seqX_ceq, hM, atI, ixN, stoD, List.getElem?_set_self hi, h0, h1, smallI, m1, m2]
  have n0 : many ≠ 0 := by omega
  split
  · split
    · exact hk _ _ (Int.emod_nonneg _ n0) (Int.emod_lt_of_pos _ h0) ⟨_, _, _, _, rfl⟩
    · exact hk _ _ (Int.emod_nonneg _ n0) (Int.emod_lt_of_pos _ h0) ⟨_, _, _, _, rfl⟩
  · exact hk _ _ (Int.emod_nonneg _ n0) (Int.emod_lt_of_pos _ h0) ⟨_, _, _, _, rfl⟩
theorem cell_ok {M : Ms} {k : DK} {kx : DX} {ns : List Int} {i : Nat} (hk : ∀ c, 0 ≤ c → k (.int c) M) : dn__law_cell [.rl (ns.map .int), .int i] M k kx := by
  simp only [dn__law_cell, bd__law_cell]
  by_cases h : (i : Int) < ns.length
  · have h2 : i < ns.length := by omega
    have e : atI (ns.map D.int) (i : Int) = some (.int ns[i]) := by
      unfold atI ixN
      simp [h2]
    have e3 : (if ns[i] < 0 then -ns[i] else ns[i]) ≥ 0 := by split <;> omega
    simp [h2, e_ix (ds := ns.map D.int) (x := .rl (ns.map D.int)) rfl e]
    exact hk _ e3
  · have h2 : ¬ i < ns.length := by omega
    simp [h2]
    exact hk _ (Int.le_refl _)
theorem hand_ok {M : Ms} {k : DK} {kx : DX} {ns : List Int} {i : Nat} (hk : ∀ h, Hand h → k (.cell M.length) (M ++ [.ml h])) : dn__law_hand [.rl (ns.map .int), .int i] M k kx := by
  simp only [dn__law_hand, bd__law_hand]
  simp
  refine cell_ok fun c hc => ?_
  simp [smallI]
  exact ⟨by decide, hk _ ⟨_, _, _, _, rfl⟩⟩
/-! ### the law's own comparison -/
def nice : Nat → D → Prop
  | 0, _ => False
  | n + 1, d => match d with
    | .int _ => True
    | .bl _ => True
    | .str _ => True
    | .non => True
    | .lst ds => ds.length ≤ big ∧ ∀ x ∈ ds, nice n x
    | .tup ds => ds.length ≤ big ∧ ∀ x ∈ ds, nice n x
    | _ => False
theorem isint_ok {M : Ms} {k : DK} {kx : DX} {i : Int} (hk : k (.bl true) M) : dn__law_is_int [.int i] M k kx := by
  simp only [dn__law_is_int, bd__law_is_int]
  simp
  exact hk
theorem same_seq {fu : Nat} {ds : List D} {M : Ms} {E : DEnds} {d : D} (hs : seqD M d = some ds) (hb : ds.length ≤ big) (ih : ∀ x ∈ ds, ∀ (M : Ms) (k : DK) (kx : DX), k (.bl true) M → dn__law_same fu [x, x] M k kx) (hk : E.rt (.bl true) M) :
    forD (bName 2) (dIf (dNot (dTr (dCall 2 [] (dn__law_same fu) (dCons (dBin fIx (dVar 0) (dVar 2)) (dCons (dBin fIx (dVar 1) (dVar 2)) dNil))))) (dRet (dC (.bl false))) dNext) (fun _ => True)
      ⟨fun G M => E.rt (.bl true) M, E.rt, E.bk, E.ct, E.ex⟩ (rngD 0 ds.length) [some d, some d, none] M := by
  rw [rng0]
  refine for_seq (P := fun r G M' => M' = M ∧ (∃ v, G = [some d, some d, v]) ∧ ∀ x ∈ r, ∃ i : Nat, i < ds.length ∧ x = D.int (i : Nat)) (fun _ _ _ _ => trivial) (fun x r G M' N q hN => ?_) (fun G M' q => ?_) _ _ _ ⟨rfl, ⟨_, rfl⟩, fun x hx => ?_⟩
  · obtain ⟨rfl, ⟨v, rfl⟩, hm⟩ := q
    obtain ⟨i, hi, rfl⟩ := hm x (List.mem_cons_self ..)
    have e : atI ds (i : Int) = some ds[i] := by
      unfold atI ixN
      simp [hi]
    refine ⟨_, rfl, ?_⟩
    simp [e_ix hs e]
    refine ih _ (List.getElem_mem hi) _ _ _ ?_
    simp
    exact hN _ _ ⟨rfl, ⟨_, rfl⟩, fun y hy => hm y (List.mem_cons_of_mem _ hy)⟩
  · obtain ⟨rfl, _⟩ := q
    exact hk
  · obtain ⟨i, hi, rfl⟩ := List.mem_map.mp hx
    exact ⟨i, by simpa using hi, rfl⟩
theorem same_ok : ∀ (fu : Nat) (d : D) (M : Ms) (k : DK) (kx : DX), nice fu d → k (.bl true) M → dn__law_same fu [d, d] M k kx
  | 0, _, _, _, _, h, _ => h.elim
  | fu + 1, d, M, k, kx, h, hk => by
    simp only [dn__law_same, bd__law_same]
    cases d with
    | int i =>
      simp
      exact isint_ok (by simpa using hk)
    | bl b =>
      cases b <;> simp <;> exact hk
    | str z =>
      simp
      exact hk
    | non =>
      simp
      exact hk
    | lst ds =>
      obtain ⟨hb, hn⟩ := h
      have hb2 : ds.length < 1099511627776 := by unfold big at hb; omega
      simp [hb2]
      refine ⟨by omega, ?_⟩
      exact same_seq (E := ⟨fun _ _ => False, outK M.length k, fun _ _ => False, fun _ _ => False, fun x _ M' => kx x (M'.take M.length)⟩) (d := .lst ds) rfl hb (fun x hx M k kx hk => same_ok fu x M k kx (hn x hx) hk) (by simpa using hk)
    | tup ds =>
      obtain ⟨hb, hn⟩ := h
      have hb2 : ds.length < 1099511627776 := by unfold big at hb; omega
      simp [hb2]
      refine ⟨by omega, ?_⟩
      exact same_seq (E := ⟨fun _ _ => False, outK M.length k, fun _ _ => False, fun _ _ => False, fun x _ M' => kx x (M'.take M.length)⟩) (d := .tup ds) rfl hb (fun x hx M k kx hk => same_ok fu x M k kx (hn x hx) hk) (by simpa using hk)
    | _ => exact h.elim

end Tk48

namespace Tk48
open PySem PySem.Spec PyProof.Rows L2 DL
theorem lay_ints : ∀ ns : List Int, PyData.canLayAll0 (ns.map PyData.int) = true
  | [] => rfl
  | n :: ns => by
    rw [List.map_cons, PyData.canLayAll0, lay_ints ns]
    rfl
theorem depth_ints : ∀ ns : List Int, PyData.depthAll (ns.map PyData.int) = 0
  | [] => rfl
  | n :: ns => by
    rw [List.map_cons, PyData.depthAll, depth_ints ns]
    rfl
theorem can_ints {ns : List Int} : PyData.canLay0 (.list (ns.map PyData.int)) = true := by
  rw [PyData.canLay0]
  exact lay_ints ns
theorem shaped_ints {ns : List Int} : SeqAt.shaped (.list (ns.map PyData.int)) = true := by
  unfold SeqAt.shaped
  rw [can_ints, PyData.depth, depth_ints]
  rfl
theorem eqv_self {ns : List Int} : PyData.eqv (.list (ns.map PyData.int)) (.list (ns.map PyData.int)) = true := SeqAt.eqv_refl _ can_ints
theorem toPy_ints : ∀ ns : List Int, toPyL (ns.map D.int) = some (ns.map PyData.int)
  | [] => rfl
  | n :: ns => by
    rw [List.map_cons, toPyL, toPy, toPy_ints ns]
    rfl

end Tk48

namespace Tk48
open PySem PySem.Spec PyProof.Rows L2 DL
/-! lists of data made from lists -/
theorem at_map {α : Type} {f : α → D} {l : List α} {t : Nat} (h : t < l.length) : atI (l.map f) (t : Int) = some (f l[t]) := by
  unfold atI ixN
  simp [h]
/-! enumerate -/
def en : Nat → List D → List D
  | _, [] => []
  | p, d :: r => .tup [.int (p : Nat), d] :: en (p + 1) r
theorem en_get : ∀ (l : List D) (p i : Nat), (en p l)[i]? = (l[i]?).map fun d => D.tup [.int ((p + i : Nat) : Int), d]
  | [], p, i => by simp [en]
  | d :: l, p, 0 => by simp [en]
  | d :: l, p, i + 1 => by
    rw [en, List.getElem?_cons_succ, en_get l (p + 1) i, List.getElem?_cons_succ]
    rw [show p + 1 + i = p + (i + 1) by omega]
theorem enumD_en (l : List D) : enumD l = en 0 l := by
  refine List.ext_getElem? fun i => ?_
  rw [en_get, Nat.zero_add]
  unfold enumD
  rw [List.getElem?_map]
  by_cases h : i < l.length
  · rw [List.getElem?_range h, List.getElem?_eq_getElem h, Option.map_some, Option.map_some, List.getD_eq_getElem?_getD, List.getElem?_eq_getElem h]
    rfl
  · rw [List.getElem?_eq_none (by simpa using h), List.getElem?_eq_none (by omega)]
    rfl
/-- a comprehension over a list made from a list, that changes nothing -/
theorem lc_map {α : Type} {bd : DBd} {dt : DTT} {de : DTE} {gd : Ms → Prop} {G : Gm} {M : Ms} {k : List D → Ms → Prop} (l : List α) (g f : α → D) (p : α → Bool) (hg : gd M)
    (h : ∀ a ∈ l, ∃ G', bd (g a) G = some G' ∧ (∀ K : Bool → Ms → Prop, K (p a) M → dt G' M K X0) ∧ (p a = true → plain (f a) = true ∧ ∀ K : DK, K (f a) M → de G' M K X0))
    (hk : k ((l.filter p).map f) M) : lcD bd dt de gd G (l.map g) [] M k := by
  refine lc_seq (P := fun r acc M' => M' = M ∧ ∃ r' : List α, r = r'.map g ∧ (∀ a ∈ r', a ∈ l) ∧ acc ++ (r'.filter p).map f = (l.filter p).map f) (fun r acc M' q => q.1 ▸ hg) (fun x r acc M' N q hN => ?_) (fun acc M' q => ?_) _ [] M ⟨rfl, l, rfl, fun _ h => h, by simp⟩
  · obtain ⟨rfl, r', e0, hm, e⟩ := q
    cases r' with
    | nil => cases e0
    | cons a r' =>
      cases e0
      obtain ⟨G', e1, e2, e3⟩ := h a (hm a (List.mem_cons_self ..))
      refine ⟨G', e1, e2 _ ?_⟩
      by_cases c : p a = true
      · rw [c, if_pos rfl]
        obtain ⟨e4, e5⟩ := e3 c
        refine e5 _ ⟨e4, hN _ _ ⟨rfl, r', rfl, fun y hy => hm y (List.mem_cons_of_mem _ hy), ?_⟩⟩
        rw [← e, List.filter_cons_of_pos c]
        simp
      · rw [if_neg c]
        refine hN _ _ ⟨rfl, r', rfl, fun y hy => hm y (List.mem_cons_of_mem _ hy), ?_⟩
        rw [← e, List.filter_cons_of_neg c]
  · obtain ⟨rfl, r', e0, _, e⟩ := q
    cases r' with
    | cons a r' => cases e0
    | nil =>
      rw [← e] at hk
      simpa using hk
theorem filter_yes {α : Type} (l : List α) : l.filter (fun _ => true) = l := List.filter_eq_self.mpr fun _ _ => rfl
theorem cut_take {α : Type} {f : α → D} {l : List α} {p : Nat} : DL.cutD (l.map f) none (some (p : Int)) = (l.take p).map f := by
  unfold DL.cutD
  rw [HT.sIx_nat, HT.sIx_none, List.length_map, List.drop_zero, Nat.sub_zero, ← List.map_take]
  by_cases h : p ≤ l.length
  · rw [Nat.min_eq_left h]
  · rw [Nat.min_eq_right (by omega), List.take_of_length_le (Nat.le_refl _), List.take_of_length_le (by omega)]
/-- while: a measure that falls -/
theorem while_seq {t : DTT} {body : DTS} {D0 : DEnds} (P : Nat → Gm → Ms → Prop)
    (step : ∀ m G M (N : Gm → Ms → Prop), P m G M → (∀ m' G M, m' < m → P m' G M → N G M) → t G M (fun c M' => if c = true then body { D0 with nx := N, ct := N, bk := D0.nx } G M' else D0.nx G M') (fun x M' => D0.ex x G M')) :
    ∀ m G M, P m G M → dWhile t body D0 G M := by
  have key : ∀ n m G M, m < n → P m G M → whileD t body D0 n G M := by
    intro n
    induction n with
    | zero => intro m G M h; omega
    | succ n ih =>
      intro m G M h p
      unfold whileD
      exact step m G M _ p fun m' G M h' p' => ih m' G M (by omega) p'
  intro m G M p
  exact ⟨m + 1, key (m + 1) m G M (by omega) p⟩

end Tk48

namespace Tk48
open PySem PySem.Spec PyProof.Rows L2 DL
/-! k48: streams -/
abbrev zl (xs : List Int) : List D := xs.map D.int
def good (xs : List Int) : Prop := (∀ x ∈ xs, 0 ≤ x ∧ x ≤ 5) ∧ xs.Nodup
instance {xs : List Int} : Decidable (good xs) := inferInstanceAs (Decidable (_ ∧ _))
/-- the datum d stands for the row xs -/
def Sq (M : Ms) (d : D) (xs : List Int) : Prop := d = .lst (zl xs) ∨ d = .tup (zl xs) ∨ ∃ j, d = .cell j ∧ M[j]? = some (.ml (zl xs))
theorem Sq.seq {M : Ms} {d : D} {xs : List Int} (h : Sq M d xs) : seqD M d = some (zl xs) := by
  rcases h with rfl | rfl | ⟨j, rfl, h⟩
  · rfl
  · rfl
  · rw [seqD_ceq, h]
theorem fin_z {M : Ms} {k : DK} {kx : DX} {neg : Bool} {x : Int} {y : D} {l : List Int} (h : seqD M y = some (zl l)) : fIn neg (.int x) y M k kx = k (.bl (xor neg (decide (x ∈ l)))) M := by
  have e : ((zl l).any fun d => eqS d (.int x)) = decide (x ∈ l) := by
    rw [List.any_map, Bool.eq_iff_iff, List.any_eq_true, decide_eq_true_iff]
    constructor
    · rintro ⟨i, hi, e⟩
      have e : (i == x) = true := e
      exact (eq_of_beq e) ▸ hi
    · exact fun h => ⟨x, h, by show (x == x) = true; simp⟩
  rw [e_in h rfl ?_, e]
  rw [List.all_eq_true]
  intro x hx
  obtain ⟨i, _, rfl⟩ := List.mem_map.mp hx
  rfl
theorem sortA_ok {M : Ms} {k : DK} {d : D} {xs : List Int} (h : Sq M d xs) : cSortA [d] M k = k (.lst (zl (sortI xs))) M := by
  unfold cSortA
  simp only [h.seq, intsD_map]
/-- the part of the row ahead of place p is good, and p is where the walk stands -/
def upto (xs : List Int) (p : Nat) : Prop := ∀ i (h : i < xs.length), i < p → (0 ≤ xs[i] ∧ xs[i] ≤ 5) ∧ xs[i] ∉ xs.take i
theorem good_upto {xs : List Int} : good xs ↔ upto xs xs.length := by
  unfold good upto
  constructor
  · rintro ⟨h1, h2⟩ i h _
    refine ⟨h1 _ (List.getElem_mem h), fun z => ?_⟩
    obtain ⟨j, hj, e⟩ := List.mem_iff_getElem.mp z
    rw [List.length_take] at hj
    rw [List.getElem_take] at e
    have := (List.getElem_inj h2).mp e
    omega
  · intro h
    refine ⟨fun x hx => ?_, ?_⟩
    · obtain ⟨i, hi, rfl⟩ := List.mem_iff_getElem.mp hx
      exact (h i hi hi).1
    · refine List.pairwise_iff_getElem.mpr fun i j hi hj hij e => ?_
      refine (h j hj hj).2 ?_
      rw [← e]
      exact List.mem_iff_getElem.mpr ⟨i, by rw [List.length_take]; omega, by rw [List.getElem_take]⟩
theorem upto_succ {xs : List Int} {p : Nat} (h : p < xs.length) : upto xs (p + 1) ↔ upto xs p ∧ (0 ≤ xs[p] ∧ xs[p] ≤ 5) ∧ xs[p] ∉ xs.take p := by
  constructor
  · exact fun q => ⟨fun i hi hp => q i hi (by omega), q p h (by omega)⟩
  · rintro ⟨q1, q2⟩ i hi hp
    by_cases c : i = p
    · subst c
      exact q2
    · exact q1 i hi (by omega)
theorem upto_lt {xs : List Int} {p q : Nat} (h : upto xs q) (hp : p ≤ q) : upto xs p := fun i hi hj => h i hi (by omega)
theorem streams_body {M : Ms} {E : DEnds} {d : D} {xs : List Int} {gd : Ms → Prop} {bk : Prop} (hS : Sq M d xs) (hg : gd M) (hk : E.rt (.bl (decide (good xs))) M) :
    forD (bTup [(bName 1), (bName 2)]) (dIf (dOr (dNot (dB (dChain fLe fLe (dC (.int 0)) (dVar 2) (dC (.int 5))))) (dB (dBin (fIn false) (dVar 2) (dSl toLst (dVar 0) dNoPart (dPart (dVar 1)))))) (dRet (dC (.bl false))) dNext) gd
      ⟨fun G M => E.rt (.bl true) M, E.rt, E.bk, E.ct, E.ex⟩ (enumD (zl xs)) [some d, none, none] M := by
  rw [enumD_en]
  refine for_seq (P := fun q G M' => M' = M ∧ ∃ (v w : Option D) (t : Nat), G = [some d, v, w] ∧ q = en t (zl (xs.drop t)) ∧ t ≤ xs.length ∧ upto xs t) (fun _ _ _ q => q.1 ▸ hg) (fun x q G M' N p hN => ?_) (fun G M' p => ?_) _ _ _ ⟨rfl, none, none, 0, rfl, by rw [List.drop_zero], by omega, fun i _ h => by omega⟩
  · obtain ⟨rfl, v, w, t, rfl, e, ht, hu⟩ := p
    by_cases hlt : t < xs.length
    · have ed : xs.drop t = xs[t] :: xs.drop (t + 1) := List.drop_eq_getElem_cons hlt
      rw [ed] at e
      cases e
      refine ⟨_, rfl, ?_⟩
      have cs : ∀ (k : DK) (kx : DX), fIn false (.int xs[t]) (.lst (zl (xs.take t))) M' k kx = k (.bl (decide (xs[t] ∈ xs.take t))) M' := fun k kx => by
        rw [fin_z rfl]
        simp
      have ct : ∀ (k : DK) (kx : DX), fIn false (.int xs[t]) (.tup (zl (xs.take t))) M' k kx = k (.bl (decide (xs[t] ∈ xs.take t))) M' := fun k kx => by
        rw [fin_z rfl]
        simp
      have go : (if (0 ≤ xs[t] ∧ xs[t] ≤ 5) ∧ xs[t] ∉ xs.take t then N [some d, some (.int (t : Nat)), some (.int xs[t])] M' else E.rt (.bl false) M') := by
        by_cases c : (0 ≤ xs[t] ∧ xs[t] ≤ 5) ∧ xs[t] ∉ xs.take t
        · rw [if_pos c]
          exact hN _ _ ⟨rfl, _, _, t + 1, rfl, rfl, hlt, (upto_succ hlt).mpr ⟨hu, c⟩⟩
        · rw [if_neg c]
          have ng : ¬ good xs := fun z => c ((upto_succ hlt).mp (upto_lt (good_upto.mp z) hlt)).2
          rw [decide_eq_false ng] at hk
          exact hk
      have fin : ∀ y, (∀ (k : DK) (kx : DX), fIn false (.int xs[t]) y M' k kx = k (.bl (decide (xs[t] ∈ xs.take t))) M') → slD toLst none (some (t : Int)) d M' = (fun k => k y M') →
          (dIf (dOr (dNot (dB (dChain fLe fLe (dC (.int 0)) (dVar 2) (dC (.int 5))))) (dB (dBin (fIn false) (dVar 2) (dSl toLst (dVar 0) dNoPart (dPart (dVar 1)))))) (dRet (dC (.bl false))) dNext) ⟨N, E.rt, fun G M => E.rt (.bl true) M, N, E.ex⟩ [some d, some (.int (t : Nat)), some (.int xs[t])] M' := by
        intro y h1 h2
        simp [h2, h1]
        by_cases c0 : 0 ≤ xs[t]
        · by_cases c5 : xs[t] ≤ 5
          · by_cases cm : xs[t] ∈ xs.take t
            · simp [c0, c5, cm] at go ⊢
              exact go
            · simp [c0, c5, cm] at go ⊢
              exact go
          · simp [c0, c5] at go ⊢
            exact go
        · simp [c0] at go ⊢
          exact go
      rcases hS with rfl | rfl | ⟨j, rfl, hj⟩
      · refine fin _ cs ?_
        funext k
        simp [cut_take, toLst]
      · refine fin _ ct ?_
        funext k
        simp [cut_take]
      · refine fin _ cs ?_
        funext k
        unfold slD
        simp [seqD_ceq, hj, cut_take, toLst]
    · rw [List.drop_eq_nil_of_le (by omega)] at e
      cases e
  · obtain ⟨rfl, v, w, t, rfl, e, ht, hu⟩ := p
    have et : t = xs.length := by
      by_cases hlt : t < xs.length
      · rw [List.drop_eq_getElem_cons hlt] at e
        cases e
      · omega
    subst et
    rw [decide_eq_true (good_upto.mpr hu)] at hk
    exact hk
theorem streams_ok {M : Ms} {k : DK} {kx : DX} {d : D} {xs : List Int} (hS : Sq M d xs) (hk : k (.bl (decide (good xs))) M) : dn_are_streams [d] M k kx := by
  simp only [dn_are_streams, bd_are_streams]
  have b := fun (gd : Ms → Prop) (hg : gd M) => streams_body (E := ⟨fun _ M' => k .non (M'.take M.length), outK M.length k, fun _ _ => False, fun _ _ => False, fun x _ M' => kx x (M'.take M.length)⟩) (bk := True) (gd := gd) hS hg (by simpa using hk)
  rcases id hS with rfl | rfl | ⟨j, rfl, hj⟩
  · simpa using b (fun _ => True) trivial
  · simpa using b (fun _ => True) trivial
  · have w : walkD M (.cell j) = some (zl xs, fun M2 => M2[j]? = some (.ml (zl xs))) := by
      unfold walkD
      simp [hj]
    simp [w]
    exact b _ hj
/-- the first wrong part -/
def wrongP (g : List Int) (l m p : Int) (h c : List Int) : Option Str :=
  if ¬ good g then some "green" else if ¬ (1 ≤ l ∧ l ≤ 12) then some "least" else if ¬ (l ≤ m ∧ m ≤ 12) then some "most" else if ¬ (0 ≤ p ∧ p ≤ 9) then some "pause" else if ¬ good h then some "holds" else if ¬ good c then some "calls" else none
theorem check_ok {M : Ms} {k : DK} {kx : DX} {dg dh dc : D} {g h c : List Int} {l m p : Int} (hg : Sq M dg g) (hh : Sq M dh h) (hc : Sq M dc c)
    (hk : match wrongP g l m p h c with
      | some x => kx ⟨"BadPhase", ["part"], [.str x]⟩ M
      | none => k .non M) : dn_check_phase [dg, .int l, .int m, .int p, dh, dc] M k kx := by
  simp only [dn_check_phase, bd_check_phase]
  simp [-bd_check_phase_1]
  refine streams_ok hg ?_
  by_cases c1 : good g
  case neg =>
    rw [show wrongP g l m p h c = some ("green" : Str) by simp [wrongP, c1]] at hk
    simp [c1] at hk ⊢
    exact ⟨by decide, hk⟩
  simp only [c1, decide_true]
  simp [-bd_check_phase_2]
  by_cases c2 : 1 ≤ l ∧ l ≤ 12
  case neg =>
    rw [show wrongP g l m p h c = some ("least" : Str) by simp only [wrongP]; rw [if_neg (Classical.not_not.mpr c1), if_pos c2]] at hk
    by_cases c3 : 1 ≤ l
    · have c4 : ¬ l ≤ 12 := fun z => c2 ⟨c3, z⟩
      simp [c3, c4] at hk ⊢
      exact ⟨by decide, hk⟩
    · simp [c3] at hk ⊢
      exact ⟨by decide, hk⟩
  simp [c2.1, c2.2, -bd_check_phase_2]
  simp [-bd_check_phase_3]
  by_cases c3 : l ≤ m ∧ m ≤ 12
  case neg =>
    rw [show wrongP g l m p h c = some ("most" : Str) by simp only [wrongP]; rw [if_neg (Classical.not_not.mpr c1), if_neg (Classical.not_not.mpr c2), if_pos c3]] at hk
    by_cases c4 : l ≤ m
    · have c5 : ¬ m ≤ 12 := fun z => c3 ⟨c4, z⟩
      simp [c4, c5] at hk ⊢
      exact ⟨by decide, hk⟩
    · simp [c4] at hk ⊢
      exact ⟨by decide, hk⟩
  simp [c3.1, c3.2, -bd_check_phase_3]
  simp [-bd_check_phase_4]
  by_cases c4 : 0 ≤ p ∧ p ≤ 9
  case neg =>
    rw [show wrongP g l m p h c = some ("pause" : Str) by simp only [wrongP]; rw [if_neg (Classical.not_not.mpr c1), if_neg (Classical.not_not.mpr c2), if_neg (Classical.not_not.mpr c3), if_pos c4]] at hk
    by_cases c5 : 0 ≤ p
    · have c6 : ¬ p ≤ 9 := fun z => c4 ⟨c5, z⟩
      simp [c5, c6] at hk ⊢
      exact ⟨by decide, hk⟩
    · simp [c5] at hk ⊢
      exact ⟨by decide, hk⟩
  simp [c4.1, c4.2, -bd_check_phase_4]
  simp [-bd_check_phase_5]
  refine streams_ok hh ?_
  by_cases c5 : good h
  case neg =>
    rw [show wrongP g l m p h c = some ("holds" : Str) by simp only [wrongP]; rw [if_neg (Classical.not_not.mpr c1), if_neg (Classical.not_not.mpr c2), if_neg (Classical.not_not.mpr c3), if_neg (Classical.not_not.mpr c4), if_pos c5]] at hk
    simp [c5] at hk ⊢
    exact ⟨by decide, hk⟩
  simp [c5, -bd_check_phase_5]
  simp
  refine streams_ok hc ?_
  by_cases c6 : good c
  case neg =>
    rw [show wrongP g l m p h c = some ("calls" : Str) by simp only [wrongP]; rw [if_neg (Classical.not_not.mpr c1), if_neg (Classical.not_not.mpr c2), if_neg (Classical.not_not.mpr c3), if_neg (Classical.not_not.mpr c4), if_neg (Classical.not_not.mpr c5), if_pos c6]] at hk
    simp [c6] at hk ⊢
    exact ⟨by decide, hk⟩
  rw [show wrongP g l m p h c = none by simp only [wrongP]; rw [if_neg (Classical.not_not.mpr c1), if_neg (Classical.not_not.mpr c2), if_neg (Classical.not_not.mpr c3), if_neg (Classical.not_not.mpr c4), if_neg (Classical.not_not.mpr c5), if_neg (Classical.not_not.mpr c6)]] at hk
  simp [c6] at hk ⊢
  exact hk

end Tk48

namespace Tk48
open PySem PySem.Spec PyProof.Rows L2 DL
/-! k48: what is sorted, down, up; the arguments -/
def up (xs : List Int) : List Int := ((List.range 6).filter (fun (i : Nat) => decide ((i : Int) ∈ xs))).map (fun (i : Nat) => (i : Int))
def down (xs : List Int) : List Int := ((List.range 6).filter (fun (i : Nat) => decide (5 - (i : Int) ∈ xs))).map (fun (i : Nat) => 5 - (i : Int))
theorem mem_up {xs : List Int} {y : Int} : y ∈ up xs ↔ 0 ≤ y ∧ y ≤ 5 ∧ y ∈ xs := by
  unfold up
  simp only [List.mem_map, List.mem_filter, List.mem_range, decide_eq_true_eq]
  constructor
  · rintro ⟨i, ⟨h1, h2⟩, rfl⟩
    exact ⟨by omega, by omega, h2⟩
  · rintro ⟨h0, h1, h2⟩
    exact ⟨y.toNat, ⟨by omega, by rw [Int.toNat_of_nonneg h0]; exact h2⟩, Int.toNat_of_nonneg h0⟩
theorem mem_down {xs : List Int} {y : Int} : y ∈ down xs ↔ 0 ≤ y ∧ y ≤ 5 ∧ y ∈ xs := by
  unfold down
  simp only [List.mem_map, List.mem_filter, List.mem_range, decide_eq_true_eq]
  constructor
  · rintro ⟨i, ⟨h1, h2⟩, rfl⟩
    exact ⟨by omega, by omega, h2⟩
  · rintro ⟨h0, h1, h2⟩
    have e : 5 - ((5 - y).toNat : Int) = y := by omega
    exact ⟨(5 - y).toNat, ⟨by omega, by rw [e]; exact h2⟩, e⟩
theorem up_lt (xs : List Int) : (up xs).Pairwise (· < ·) := by
  unfold up
  rw [List.pairwise_map]
  exact List.Pairwise.imp (fun h => by omega) (List.Pairwise.filter _ List.pairwise_lt_range)
theorem down_gt (xs : List Int) : (down xs).Pairwise (· > ·) := by
  unfold down
  rw [List.pairwise_map]
  exact List.Pairwise.imp (fun h => by omega) (List.Pairwise.filter _ List.pairwise_lt_range)
theorem good_up (xs : List Int) : good (up xs) := ⟨fun y h => ⟨(mem_up.mp h).1, (mem_up.mp h).2.1⟩, (up_lt xs).imp fun h => by omega⟩
theorem good_down (xs : List Int) : good (down xs) := ⟨fun y h => ⟨(mem_down.mp h).1, (mem_down.mp h).2.1⟩, (down_gt xs).imp fun h => by omega⟩
theorem sort_good {xs : List Int} : sortI xs = up xs ↔ good xs := by
  constructor
  · intro e
    have p := sortI_perm xs
    rw [e] at p
    exact ⟨fun x hx => (good_up xs).1 x (p.mem_iff.mpr hx), p.nodup_iff.mp (good_up xs).2⟩
  · intro h
    refine sorted_unique ((sortI_perm xs).trans ?_) (sortI_sorted xs) ((up_lt xs).imp fun h => by omega)
    refine (List.perm_ext_iff_of_nodup h.2 (good_up xs).2).mpr fun y => ?_
    rw [mem_up]
    exact ⟨fun hy => ⟨(h.1 y hy).1, (h.1 y hy).2, hy⟩, fun hy => hy.2.2⟩
theorem up_eq {xs ys : List Int} (h : ∀ y : Int, 0 ≤ y → y ≤ 5 → (y ∈ xs ↔ y ∈ ys)) : up xs = up ys := by
  unfold up
  congr 1
  refine List.filter_congr fun i hi => ?_
  rw [List.mem_range] at hi
  rw [decide_eq_decide]
  exact h _ (by omega) (by omega)
theorem up_down {xs : List Int} : up (down xs) = up xs := up_eq fun y h0 h1 => ⟨fun z => (mem_down.mp z).2.2, fun z => mem_down.mpr ⟨h0, h1, z⟩⟩
theorem up_up {xs : List Int} : up (up xs) = up xs := up_eq fun y h0 h1 => ⟨fun z => (mem_up.mp z).2.2, fun z => mem_up.mpr ⟨h0, h1, z⟩⟩
theorem up_len (xs : List Int) : (up xs).length ≤ 6 := by
  unfold up
  rw [List.length_map]
  exact Nat.le_trans (List.length_filter_le _ _) (by simp)
theorem down_len (xs : List Int) : (down xs).length ≤ 6 := by
  unfold down
  rw [List.length_map]
  exact Nat.le_trans (List.length_filter_le _ _) (by simp)
theorem rng6 : rngD 0 6 = (List.range 6).map fun (i : Nat) => D.int (i : Nat) := rfl
theorem small5 {i : Nat} (h : i ∈ List.range 6) : smallI (i : Int) = true := by
  rw [List.mem_range] at h
  unfold smallI
  exact decide_eq_true ⟨by omega, by omega⟩
theorem down_ok {M : Ms} {k : DK} {kx : DX} {d : D} {xs : List Int} (h : Sq M d xs) (hk : k (.lst (zl (down xs))) M) : dn__law_down [d] M k kx := by
  have e : (((List.range 6).filter (fun (i : Nat) => decide (5 - (i : Int) ∈ xs))).map fun (i : Nat) => D.int (5 - (i : Int))) = zl (down xs) := by
    unfold zl down
    rw [List.map_map]
    rfl
  simp only [dn__law_down, bd__law_down]
  simp [-e_dLc]
  rw [e_dLc]
  simp [rng6]
  refine ⟨by decide, ?_⟩
  refine lc_map (List.range 6) _ (fun (i : Nat) => D.int (5 - (i : Int))) (fun (i : Nat) => decide (5 - (i : Int) ∈ xs)) trivial (fun i hi => ⟨_, rfl, fun K hK => ?_, fun _ => ⟨rfl, fun K hK => ?_⟩⟩) ?_
  · simp [small5 hi, fin_z h.seq]
    simpa using hK
  · simp [small5 hi]
    exact hK
  · rw [e]
    simpa using hk
theorem up_ok {M : Ms} {k : DK} {kx : DX} {d : D} {xs : List Int} (h : Sq M d xs) (hk : k (.tup (zl (up xs))) M) : dn__law_up [d] M k kx := by
  have e : (((List.range 6).filter (fun (i : Nat) => decide ((i : Int) ∈ xs))).map fun (i : Nat) => D.int (i : Int)) = zl (up xs) := by
    unfold zl up
    rw [List.map_map]
    rfl
  simp only [dn__law_up, bd__law_up]
  simp [-e_dLc]
  rw [e_dLc]
  simp [rng6]
  refine ⟨by decide, ?_⟩
  refine lc_map (List.range 6) _ (fun (i : Nat) => D.int (i : Int)) (fun (i : Nat) => decide ((i : Int) ∈ xs)) trivial (fun i hi => ⟨_, rfl, fun K hK => ?_, fun _ => ⟨rfl, fun K hK => ?_⟩⟩) ?_
  · simp [fin_z h.seq]
    simpa using hK
  · simp
    exact hK
  · rw [e]
    unfold cTuple
    simpa [seqD] using hk
theorem ked_all : ∀ ns ms : List Int, PyData.eqvAll (ns.map PyData.int) (ms.map PyData.int) = decide (ns = ms)
  | [], [] => by simp [PyData.eqvAll]
  | [], _ :: _ => by simp [PyData.eqvAll]
  | _ :: _, [] => by simp [PyData.eqvAll]
  | n :: r, m :: t => by
    simp only [List.map_cons, PyData.eqvAll, PyData.eqv, ked_all r t]
    by_cases h : n = m
    · subst h
      simp
    · simp [h]
theorem ne_zl {M : Ms} {k : DK} {kx : DX} {ns ms : List Int} : fEqD true (.lst (zl ns)) (.lst (zl ms)) M k kx = k (.bl (decide (¬ ns = ms))) M := by
  have e1 : ∀ l : List Int, toPyM M (.lst (l.map D.int)) = some (.list (l.map PyData.int)) := fun l => by
    show toPy (.lst (l.map D.int)) = _
    rw [toPy, toPy_ints]
  unfold fEqD
  simp only [e1, shaped_ints, PyData.eqv, ked_all]
  by_cases h : ns = ms
  · simp [h]
  · simp [h]
structure Ar where
  g : List Int
  l : Int
  m : Option Int
  p : Int
  h : List Int
  c : List Int
  y : Bool
def oi : Option Int → D
  | none => .non
  | some i => .int i
abbrev Ar.ds (a : Ar) : List D := [.lst (zl a.g), .int a.l, oi a.m, .int a.p, .lst (zl a.h), .lst (zl a.c), .bl a.y]
def mend (a : Ar) : Ar :=
  let l' := max 1 (min 12 a.l)
  ⟨down a.g, l', a.m.map fun u => max l' (min 12 u), max 0 (min 9 a.p), down a.h, down a.c, a.y⟩
theorem mended_ok {M : Ms} {k : DK} {kx : DX} {a : Ar} (hk : k (.lst (mend a).ds) M) : dn__law_mended [.lst a.ds] M k kx := by
  obtain ⟨g, l, m, p, h, c, y⟩ := a
  have s1 : Sq M (.lst (zl g)) g := Or.inl rfl
  have s2 : Sq M (.lst (zl h)) h := Or.inl rfl
  have s3 : Sq M (.lst (zl c)) c := Or.inl rfl
  simp only [dn__law_mended, bd__law_mended]
  cases m with
  | none =>
    simp [fIx, seqX, seqD, atI, ixN, oi]
    refine down_ok s1 (down_ok s2 (down_ok s3 ?_))
    simp
    exact ⟨by decide, by simpa [mend, oi, Ar.ds] using hk⟩
  | some u =>
    simp [fIx, seqX, seqD, atI, ixN, oi]
    refine down_ok s1 (down_ok s2 (down_ok s3 ?_))
    simp
    exact ⟨by decide, by simpa [mend, oi, Ar.ds] using hk⟩

end Tk48

namespace Tk48
open PySem PySem.Spec PyProof.Rows L2 DL
/-! k48: phases made -/
def Pd (g : List Int) (l m p : Int) (h c : List Int) (y : Bool) : D := .ins "Phase" ["green", "least", "most", "pause", "holds", "calls", "yields"] [.tup (zl g), .int l, .int m, .int p, .tup (zl h), .tup (zl c), .bl y]
theorem putD_new {f : Str} {a : D} : ∀ {l : List (Str × D)}, f ∉ l.map (·.1) → putD f a l = l ++ [(f, a)]
  | [], _ => rfl
  | q :: l, h => by
    rw [List.map_cons, List.mem_cons, not_or] at h
    obtain ⟨n, v⟩ := q
    unfold putD
    rw [if_neg (fun z => h.1 z.symm), putD_new h.2]
    rfl
theorem q1 {a : D} : putD "green" a [] = [(("green" : Str), a)] := rfl
theorem q2 {a b : D} : putD "least" b [(("green" : Str), a)] = [(("green" : Str), a), (("least" : Str), b)] := putD_new (by simp only [List.map_cons, List.map_nil, List.mem_cons, List.not_mem_nil, or_false]; decide +kernel)
theorem q3 {a b c : D} : putD "most" c [(("green" : Str), a), (("least" : Str), b)] = [(("green" : Str), a), (("least" : Str), b), (("most" : Str), c)] := putD_new (by simp only [List.map_cons, List.map_nil, List.mem_cons, List.not_mem_nil, or_false]; decide +kernel)
theorem q4 {a b c d : D} : putD "pause" d [(("green" : Str), a), (("least" : Str), b), (("most" : Str), c)] = [(("green" : Str), a), (("least" : Str), b), (("most" : Str), c), (("pause" : Str), d)] := putD_new (by simp only [List.map_cons, List.map_nil, List.mem_cons, List.not_mem_nil, or_false]; decide +kernel)
theorem q5 {a b c d e : D} : putD "holds" e [(("green" : Str), a), (("least" : Str), b), (("most" : Str), c), (("pause" : Str), d)] = [(("green" : Str), a), (("least" : Str), b), (("most" : Str), c), (("pause" : Str), d), (("holds" : Str), e)] := putD_new (by simp only [List.map_cons, List.map_nil, List.mem_cons, List.not_mem_nil, or_false]; decide +kernel)
theorem q6 {a b c d e f : D} : putD "calls" f [(("green" : Str), a), (("least" : Str), b), (("most" : Str), c), (("pause" : Str), d), (("holds" : Str), e)] = [(("green" : Str), a), (("least" : Str), b), (("most" : Str), c), (("pause" : Str), d), (("holds" : Str), e), (("calls" : Str), f)] := putD_new (by simp only [List.map_cons, List.map_nil, List.mem_cons, List.not_mem_nil, or_false]; decide +kernel)
theorem q7 {a b c d e f g : D} : putD "yields" g [(("green" : Str), a), (("least" : Str), b), (("most" : Str), c), (("pause" : Str), d), (("holds" : Str), e), (("calls" : Str), f)] = [(("green" : Str), a), (("least" : Str), b), (("most" : Str), c), (("pause" : Str), d), (("holds" : Str), e), (("calls" : Str), f), (("yields" : Str), g)] := putD_new (by simp only [List.map_cons, List.map_nil, List.mem_cons, List.not_mem_nil, or_false]; decide +kernel)
theorem Sq.app {M N : Ms} {d : D} {xs : List Int} (h : Sq M d xs) : Sq (M ++ N) d xs := by
  rcases h with h | h | ⟨j, h, e⟩
  · exact Or.inl h
  · exact Or.inr (Or.inl h)
  · exact Or.inr (Or.inr ⟨j, h, by rw [List.getElem?_append_left (List.getElem?_eq_some_iff.mp e).1]; exact e⟩)
theorem tup_zl {M : Ms} {k : DK} {xs : List Int} : cTuple [.lst (zl xs)] M k = k (.tup (zl xs)) M := by
  unfold cTuple
  simp only [seqD]
theorem init_ok {M : Ms} {k : DK} {kx : DX} {dg dh dc : D} {g h c : List Int} {l p : Int} {m : Option Int} {y : Bool} (hg : Sq M dg g) (hh : Sq M dh h) (hc : Sq M dc c)
    (hk : match wrongP g l (m.getD l) p h c with
      | some x => kx ⟨"BadPhase", ["part"], [.str x]⟩ (M ++ [.mi "Phase" []])
      | none => k (Pd (sortI g) l (m.getD l) p (sortI h) (sortI c) y) M) : dn_Phase_init_d [.cell M.length, dg, .int l, oi m, .int p, dh, dc, .bl y] (M ++ [.mi "Phase" []]) (mkK M.length k) kx := by
  have sg : ∀ x k, cSortA [dg] (M ++ [x]) k = k (.lst (zl (sortI g))) (M ++ [x]) := fun x k => sortA_ok hg.app
  have sh : ∀ x k, cSortA [dh] (M ++ [x]) k = k (.lst (zl (sortI h))) (M ++ [x]) := fun x k => sortA_ok hh.app
  have sc : ∀ x k, cSortA [dc] (M ++ [x]) k = k (.lst (zl (sortI c))) (M ++ [x]) := fun x k => sortA_ok hc.app
  simp only [dn_Phase_init_d, bd_Phase_init_d]
  cases m with
  | none =>
    simp [oi, -bd_Phase_init_d_2]
    refine check_ok hg.app hh.app hc.app ?_
    cases e : wrongP g l l p h c with
    | some x =>
      rw [show (none : Option Int).getD l = l from rfl, e] at hk
      simpa using hk
    | none =>
      rw [show (none : Option Int).getD l = l from rfl, e] at hk
      simp only [bd_Phase_init_d_2]
      simp [sg, sh, sc, tup_zl, q1, q2, q3, q4, q5, q6, q7]
      simp [mkK]
      exact hk
  | some u =>
    simp [oi, -bd_Phase_init_d_2]
    refine check_ok hg.app hh.app hc.app ?_
    cases e : wrongP g l u p h c with
    | some x =>
      rw [show (some u).getD l = u from rfl, e] at hk
      simpa using hk
    | none =>
      rw [show (some u).getD l = u from rfl, e] at hk
      simp only [bd_Phase_init_d_2]
      simp [sg, sh, sc, tup_zl, q1, q2, q3, q4, q5, q6, q7]
      simp [mkK]
      exact hk
def fw (w k : Nat) : Bool := decide (w = k ∨ w = 7 ∨ (w = 8 ∧ k ≠ 1) ∨ (w = 9 ∧ k ≠ 3 ∧ k ≠ 6))
def fe (a : Ar) (w : Nat) : Ar := ⟨a.g, if fw w 1 then 1 else a.l, if fw w 2 then none else a.m, if fw w 3 then 0 else a.p, if fw w 4 then [] else a.h, if fw w 5 then [] else a.c, if fw w 6 then false else a.y⟩
def wr (a : Ar) : Option Str := wrongP a.g a.l (a.m.getD a.l) a.p a.h a.c
def phD (a : Ar) : D := Pd (sortI a.g) a.l (a.m.getD a.l) a.p (sortI a.h) (sortI a.c) a.y
theorem cases10 {w : Nat} (h : w ≤ 9) : w = 0 ∨ w = 1 ∨ w = 2 ∨ w = 3 ∨ w = 4 ∨ w = 5 ∨ w = 6 ∨ w = 7 ∨ w = 8 ∨ w = 9 := by omega
theorem called_ok {M : Ms} {k : DK} {kx : DX} {d x0 x4 x5 : D} {a : Ar} {w : Nat} (hw : w ≤ 9) (hs : seqX M d = some [x0, .int a.l, oi a.m, .int a.p, x4, x5, .bl a.y]) (h0 : Sq M x0 a.g) (h4 : Sq M x4 a.h) (h5 : Sq M x5 a.c)
    (hk : match wr (fe a w) with
      | some x => kx ⟨"BadPhase", ["part"], [.str x]⟩ M
      | none => k (phD (fe a w)) M) : dn__law_called [d, .int w] M k kx := by
  have i0 : ∀ k kx, fIx d (.int 0) M k kx = k x0 M := fun k kx => e_ixX hs (by simp [atI, ixN])
  have i1 : ∀ k kx, fIx d (.int 1) M k kx = k (.int a.l) M := fun k kx => e_ixX hs (by simp [atI, ixN])
  have i2 : ∀ k kx, fIx d (.int 2) M k kx = k (oi a.m) M := fun k kx => e_ixX hs (by simp [atI, ixN])
  have i3 : ∀ k kx, fIx d (.int 3) M k kx = k (.int a.p) M := fun k kx => e_ixX hs (by simp [atI, ixN])
  have i4 : ∀ k kx, fIx d (.int 4) M k kx = k x4 M := fun k kx => e_ixX hs (by simp [atI, ixN])
  have i5 : ∀ k kx, fIx d (.int 5) M k kx = k x5 M := fun k kx => e_ixX hs (by simp [atI, ixN])
  have i6 : ∀ k kx, fIx d (.int 6) M k kx = k (.bl a.y) M := fun k kx => e_ixX hs (by simp [atI, ixN])
  have t0 : Sq M (.tup []) [] := Or.inr (Or.inl rfl)
  simp only [dn__law_called, bd__law_called]
  rcases cases10 hw with rfl | rfl | rfl | rfl | rfl | rfl | rfl | rfl | rfl | rfl
  · simp [i0, i1, i2, i3, i4, i5, i6, pickK]
    refine init_ok h0 h4 h5 ?_
    have hb : fe a 0 = ⟨a.g, a.l, a.m, a.p, a.h, a.c, a.y⟩ := (by simp [fe, fw])
    rw [hb] at hk
    simp only [wr, phD] at hk
    split at hk
    · rename_i x e
      try rw [e]
      simpa using hk
    · rename_i e
      try rw [e]
      simpa [Pd] using hk
  · simp [i0, i1, i2, i3, i4, i5, i6, pickK]
    refine init_ok h0 h4 h5 ?_
    have hb : fe a 1 = ⟨a.g, 1, a.m, a.p, a.h, a.c, a.y⟩ := (by simp [fe, fw])
    rw [hb] at hk
    simp only [wr, phD] at hk
    split at hk
    · rename_i x e
      try rw [e]
      simpa using hk
    · rename_i e
      try rw [e]
      simpa [Pd] using hk
  · simp [i0, i1, i2, i3, i4, i5, i6, pickK]
    refine init_ok (m := none) h0 h4 h5 ?_
    have hb : fe a 2 = ⟨a.g, a.l, none, a.p, a.h, a.c, a.y⟩ := (by simp [fe, fw])
    rw [hb] at hk
    simp only [wr, phD] at hk
    split at hk
    · rename_i x e
      try rw [e]
      simpa using hk
    · rename_i e
      try rw [e]
      simpa [Pd] using hk
  · simp [i0, i1, i2, i3, i4, i5, i6, pickK]
    refine init_ok h0 h4 h5 ?_
    have hb : fe a 3 = ⟨a.g, a.l, a.m, 0, a.h, a.c, a.y⟩ := (by simp [fe, fw])
    rw [hb] at hk
    simp only [wr, phD] at hk
    split at hk
    · rename_i x e
      try rw [e]
      simpa using hk
    · rename_i e
      try rw [e]
      simpa [Pd] using hk
  · simp [i0, i1, i2, i3, i4, i5, i6, pickK]
    refine init_ok h0 t0 h5 ?_
    have hb : fe a 4 = ⟨a.g, a.l, a.m, a.p, [], a.c, a.y⟩ := (by simp [fe, fw])
    rw [hb] at hk
    simp only [wr, phD] at hk
    split at hk
    · rename_i x e
      try rw [e]
      simpa using hk
    · rename_i e
      try rw [e]
      simpa [Pd] using hk
  · simp [i0, i1, i2, i3, i4, i5, i6, pickK]
    refine init_ok h0 h4 t0 ?_
    have hb : fe a 5 = ⟨a.g, a.l, a.m, a.p, a.h, [], a.y⟩ := (by simp [fe, fw])
    rw [hb] at hk
    simp only [wr, phD] at hk
    split at hk
    · rename_i x e
      try rw [e]
      simpa using hk
    · rename_i e
      try rw [e]
      simpa [Pd] using hk
  · simp [i0, i1, i2, i3, i4, i5, i6, pickK]
    refine init_ok h0 h4 h5 ?_
    have hb : fe a 6 = ⟨a.g, a.l, a.m, a.p, a.h, a.c, false⟩ := (by simp [fe, fw])
    rw [hb] at hk
    simp only [wr, phD] at hk
    split at hk
    · rename_i x e
      try rw [e]
      simpa using hk
    · rename_i e
      try rw [e]
      simpa [Pd] using hk
  · simp [i0, i1, i2, i3, i4, i5, i6, pickK]
    refine init_ok (m := none) h0 t0 t0 ?_
    have hb : fe a 7 = ⟨a.g, 1, none, 0, [], [], false⟩ := (by simp [fe, fw])
    rw [hb] at hk
    simp only [wr, phD] at hk
    split at hk
    · rename_i x e
      try rw [e]
      simpa using hk
    · rename_i e
      try rw [e]
      simpa [Pd] using hk
  · simp [i0, i1, i2, i3, i4, i5, i6, pickK]
    refine init_ok (m := none) h0 t0 t0 ?_
    have hb : fe a 8 = ⟨a.g, a.l, none, 0, [], [], false⟩ := (by simp [fe, fw])
    rw [hb] at hk
    simp only [wr, phD] at hk
    split at hk
    · rename_i x e
      try rw [e]
      simpa using hk
    · rename_i e
      try rw [e]
      simpa [Pd] using hk
  · simp [i0, i1, i2, i3, i4, i5, i6, pickK]
    refine init_ok (m := none) h0 t0 t0 ?_
    have hb : fe a 9 = ⟨a.g, 1, none, a.p, [], [], a.y⟩ := (by simp [fe, fw])
    rw [hb] at hk
    simp only [wr, phD] at hk
    split at hk
    · rename_i x e
      try rw [e]
      simpa using hk
    · rename_i e
      try rw [e]
      simpa [Pd] using hk

end Tk48

namespace Tk48
open PySem PySem.Spec PyProof.Rows L2 DL
/-! k48: what is left out -/
def sqD (b : Bool) (xs : List Int) : D := if b then .tup (zl xs) else .lst (zl xs)
abbrev filL (a : Ar) (w : Nat) : List D := [.lst (zl a.g), .int (fe a w).l, oi (fe a w).m, .int (fe a w).p, sqD (fw w 4) (fe a w).h, sqD (fw w 5) (fe a w).c, .bl (fe a w).y]
theorem plain_oi {m : Option Int} : plain (oi m) = true := by cases m <;> rfl
theorem r7 : rngD 1 7 = [.int 1, .int 2, .int 3, .int 4, .int 5, .int 6] := rfl
theorem sq_ok {M : Ms} {b : Bool} {xs : List Int} : Sq M (sqD b xs) xs := by
  cases b
  · exact Or.inl rfl
  · exact Or.inr (Or.inl rfl)
def usL : List D := [.non, .int 1, .non, .int 0, .tup [], .tup [], .bl false]
def fl (a : Ar) (w : Nat) : Nat → List D
  | 0 => a.ds
  | t + 1 => if fw w t && decide (0 < t) then (fl a w t).set t (usL.getD t .non) else fl a w t
theorem fl_len {a : Ar} {w : Nat} : ∀ t, (fl a w t).length = 7
  | 0 => rfl
  | t + 1 => by
    unfold fl
    split
    · rw [List.length_set, fl_len t]
    · exact fl_len t
theorem fl_end {a : Ar} {w : Nat} : fl a w 7 = filL a w := by
  obtain ⟨g, l, m, p, h, c, y⟩ := a
  simp only [fl, filL, fe, sqD, usL, Ar.ds]
  cases fw w 1 <;> cases fw w 2 <;> cases fw w 3 <;> cases fw w 4 <;> cases fw w 5 <;> cases fw w 6 <;> simp [oi]
theorem fill_if {M : Ms} {E : DEnds} {w t : Nat} {ds : List D} {x0 : D} (h1 : 1 ≤ t) (h2 : t ≤ 6) (hl : ds.length = 7) :
    (dIf (dOr (dB (dBin fEqS (dVar 1) (dVar 4))) (dOr (dB (dBin fEqS (dVar 1) (dC (.int 7)))) (dOr (dAnd (dB (dBin fEqS (dVar 1) (dC (.int 8)))) (dB (dBin fNeS (dVar 4) (dC (.int 1))))) (dAnd (dB (dBin fEqS (dVar 1) (dC (.int 9)))) (dB (dBin (fIn true) (dVar 4) (dTup (dCons (dC (.int 3)) (dCons (dC (.int 6)) dNil))))))))) (dSub (dVar 3) (dVar 4) (dBin fIx (dVar 2) (dVar 4))) dNext)
      E [some x0, some (.int (w : Nat)), some (.lst usL), some (.cell M.length), some (.int (t : Nat))] (M ++ [.ml ds]) = E.nx [some x0, some (.int (w : Nat)), some (.lst usL), some (.cell M.length), some (.int (t : Nat))] (M ++ [.ml (if fw w t && decide (0 < t) then ds.set t (usL.getD t .non) else ds)]) := by
  have fi : ∀ (k : DK) (kx : DX), fIn true (.int (t : Nat)) (.tup [.int 3, .int 6]) (M ++ [.ml ds]) k kx = k (.bl (decide (t ≠ 3 ∧ t ≠ 6))) (M ++ [.ml ds]) := fun k kx => by
    rw [fin_z (l := [3, 6]) rfl]
    congr 2
    by_cases c3 : t = 3
    · subst c3
      rfl
    · by_cases c6 : t = 6
      · subst c6
        rfl
      · have n3 : ¬ (t : Int) = 3 := by omega
        have n6 : ¬ (t : Int) = 6 := by omega
        simp [n3, n6, c3, c6]
  have hu : usL[t]? = some (usL.getD t .non) := by
    rw [List.getD_eq_getElem?_getD, List.getElem?_eq_getElem (show t < usL.length by show t < 7; omega)]
    rfl
  have e0 : atI usL (t : Int) = some (usL.getD t .non) := by
    unfold atI ixN
    have : t < usL.length := by show t < 7; omega
    simp [this, hu]
  have ix : ∀ (k : DK) (kx : DX), fIx (.lst usL) (.int (t : Nat)) (M ++ [.ml ds]) k kx = k (usL.getD t .non) (M ++ [.ml ds]) := fun k kx => e_ix rfl e0
  have pu : plain (usL.getD t .non) = true := by
    have : t = 1 ∨ t = 2 ∨ t = 3 ∨ t = 4 ∨ t = 5 ∨ t = 6 := by omega
    rcases this with rfl | rfl | rfl | rfl | rfl | rfl <;> rfl
  have st : stoD (M ++ [.ml ds]) (.cell M.length) (.int (t : Nat)) (usL.getD t .non) = some (M ++ [.ml (ds.set t (usL.getD t .non))]) := by
    have hx : ixN ds.length (t : Int) = some t := by
      unfold ixN
      rw [hl]
      have : (t : Int) < 7 := by omega
      simp [this]
    rw [e_sto (ds := ds) (by simp) hx pu]
    simp
  have h3 : 0 < t := by omega
  clear hu e0
  generalize usL.getD t .non = u at *
  have c1 : ((w : Int) = (t : Int)) = (w = t) := propext (by omega)
  have c2 : ((t : Int) = 1) = (t = 1) := propext (by omega)
  have c7 : ((w : Int) = 7) = (w = 7) := propext (by omega)
  have c8 : ((w : Int) = 8) = (w = 8) := propext (by omega)
  have c9 : ((w : Int) = 9) = (w = 9) := propext (by omega)
  simp only [e_dIf, e_dOr, e_dAnd, e_dB, e_dBin, e_dVar, e_dC, e_dTup, e_dCons, e_dNil]
  simp [fi, ix, st, h3, c1, c2, c7, c8, c9, fw, big]
  by_cases a1 : w = t
  · simp [a1]
  · by_cases a7 : w = 7
    · simp [a1, a7]
    · by_cases a8 : w = 8
      · by_cases b1 : t = 1
        · simp [a1, a8, b1]
        · simp [a1, a8, b1]
      · by_cases a9 : w = 9
        · by_cases b3 : t = 3
          · simp [a9, b3]
          · by_cases b6 : t = 6
            · simp [a9, b6]
            · simp [a9, b3, b6]
        · simp [a1, a7, a8, a9]
theorem rng17 : rngD 1 7 = (List.range' 1 6).map fun (i : Nat) => D.int (i : Nat) := rfl
theorem filled_ok {M : Ms} {k : DK} {kx : DX} {a : Ar} {w : Nat} (hk : k (.lst (filL a w)) M) : dn__law_filled [.lst a.ds, .int w] M k kx := by
  have eu : ([.non, .int 1, .non, .int 0, .tup [], .tup [], .bl false] : List D) = usL := rfl
  have cl : ∀ k : DK, cListM [.lst a.ds] M k = k (.cell M.length) (M ++ [.ml a.ds]) := fun k => rfl
  simp only [dn__law_filled, bd__law_filled]
  simp [-bd__law_filled_1]
  rw [eu]
  simp only [bd__law_filled_1]
  simp [-bd__law_filled_2, cl, -e_dLst]
  simp only [bd__law_filled_2]
  simp [-bd__law_filled_3, -e_dIf]
  rw [rng17]
  refine ⟨by decide, ?_⟩
  refine for_seq (P := fun q G M' => ∃ (t m : Nat) (v : Option D), G = [some (.lst a.ds), some (.int (w : Nat)), some (.lst usL), some (.cell M.length), v] ∧ M' = M ++ [.ml (fl a w t)] ∧ q = (List.range' t m).map (fun (i : Nat) => D.int (i : Nat)) ∧ 1 ≤ t ∧ t + m = 7) (fun _ _ _ _ => trivial) (fun x q G M' N p hN => ?_) (fun G M' p => ?_) _ _ _ ?_
  · obtain ⟨t, m, v, rfl, rfl, e, h1, h2⟩ := p
    cases m with
    | zero => cases e
    | succ m =>
      rw [List.range'_succ, List.map_cons] at e
      cases e
      refine ⟨_, rfl, ?_⟩
      show (dIf _ _ _) _ [some (.lst a.ds), some (.int (w : Nat)), some (.lst usL), some (.cell M.length), some (.int (t : Nat))] _
      rw [fill_if h1 (by omega) (fl_len t)]
      exact hN _ _ ⟨t + 1, m, _, rfl, rfl, rfl, by omega, by omega⟩
  · obtain ⟨t, m, v, rfl, rfl, e, h1, h2⟩ := p
    cases m with
    | succ m => cases e
    | zero =>
      have et : t = 7 := by omega
      subst et
      have e : fzD (M ++ [MO.ml (filL a w)]) M.length = some (.lst (filL a w), (M ++ [MO.ml (filL a w)]).set M.length MO.dead) := by
        unfold fzD
        simp
      rw [fl_end]
      simp [outK, e]
      exact hk
  · have e1 : fl a w 1 = a.ds := by simp [fl]
    exact ⟨1, 6, none, rfl, by rw [e1], rfl, by omega, by omega⟩
/-- the law's own word for what is wrong -/
theorem wrong_ok {M : Ms} {k : DK} {kx : DX} {d x0 x4 x5 : D} {a : Ar} (hs : seqX M d = some [x0, .int a.l, oi a.m, .int a.p, x4, x5, .bl a.y]) (h0 : Sq M x0 a.g) (h4 : Sq M x4 a.h) (h5 : Sq M x5 a.c)
    (hk : k (match wr a with | some x => .str x | none => .non) M) : dn__law_wrong [d] M k kx := by
  have i0 : ∀ k kx, fIx d (.int 0) M k kx = k x0 M := fun k kx => e_ixX hs (by simp [atI, ixN])
  have i1 : ∀ k kx, fIx d (.int 1) M k kx = k (.int a.l) M := fun k kx => e_ixX hs (by simp [atI, ixN])
  have i2 : ∀ k kx, fIx d (.int 2) M k kx = k (oi a.m) M := fun k kx => e_ixX hs (by simp [atI, ixN])
  have i3 : ∀ k kx, fIx d (.int 3) M k kx = k (.int a.p) M := fun k kx => e_ixX hs (by simp [atI, ixN])
  have i4 : ∀ k kx, fIx d (.int 4) M k kx = k x4 M := fun k kx => e_ixX hs (by simp [atI, ixN])
  have i5 : ∀ k kx, fIx d (.int 5) M k kx = k x5 M := fun k kx => e_ixX hs (by simp [atI, ixN])
  have cl : ∀ (l : List Int) (k : DK), cList [.tup (zl l)] M k = k (.lst (zl l)) M := fun l k => by
    unfold cList
    simp only [seqD]
  have sg : ∀ k, cSortA [x0] M k = k (.lst (zl (sortI a.g))) M := fun k => sortA_ok h0
  have sh : ∀ k, cSortA [x4] M k = k (.lst (zl (sortI a.h))) M := fun k => sortA_ok h4
  have sc : ∀ k, cSortA [x5] M k = k (.lst (zl (sortI a.c))) M := fun k => sortA_ok h5
  have ng : ∀ xs : List Int, (¬ sortI xs = up xs) ↔ ¬ good xs := fun xs => not_congr sort_good
  obtain ⟨u, hu⟩ : ∃ u, u = a.m.getD a.l := ⟨_, rfl⟩
  have hw : wr a = wrongP a.g a.l u a.p a.h a.c := by rw [hu]; rfl
  rw [hw] at hk
  simp only [dn__law_wrong, bd__law_wrong]
  have fin : Bd__law_wrong_2 ⟨fun _ M' => k .non (M'.take M.length), outK M.length k, fun _ _ => False, fun _ _ => False, fun x _ M' => kx x (M'.take M.length)⟩ [some d, some (.int u)] M := by
    unfold wrongP at hk
    simp only [bd__law_wrong_2]
    simp [-bd__law_wrong_3, i0, sg]
    refine up_ok h0 ?_
    simp only [cl, ne_zl, ng]
    by_cases c1 : good a.g
    case neg =>
      rw [if_pos c1] at hk
      simp [c1, -bd__law_wrong_3]
      exact hk
    rw [if_neg (Classical.not_not.mpr c1)] at hk
    simp only [bd__law_wrong_3]
    simp [c1, -bd__law_wrong_4, i1]
    by_cases c2 : 1 ≤ a.l ∧ a.l ≤ 12
    case neg =>
      rw [if_pos c2] at hk
      by_cases c3 : a.l < 1
      · simp [c3, -bd__law_wrong_4]
        exact hk
      · have c4 : 12 < a.l := by omega
        simp [c3, c4, -bd__law_wrong_4]
        exact hk
    rw [if_neg (Classical.not_not.mpr c2)] at hk
    have c2a : ¬ a.l < 1 := by omega
    have c2b : ¬ 12 < a.l := by omega
    simp only [bd__law_wrong_4]
    simp [c2a, c2b, -bd__law_wrong_5, i1]
    by_cases c3 : a.l ≤ u ∧ u ≤ 12
    case neg =>
      rw [if_pos c3] at hk
      by_cases c4 : u < a.l
      · simp [c4, -bd__law_wrong_5]
        exact hk
      · have c5 : 12 < u := by omega
        simp [c4, c5, -bd__law_wrong_5]
        exact hk
    rw [if_neg (Classical.not_not.mpr c3)] at hk
    have c3a : ¬ u < a.l := by omega
    have c3b : ¬ 12 < u := by omega
    simp only [bd__law_wrong_5]
    simp [c3a, c3b, -bd__law_wrong_6, i3]
    by_cases c4 : 0 ≤ a.p ∧ a.p ≤ 9
    case neg =>
      rw [if_pos c4] at hk
      by_cases c5 : a.p < 0
      · simp [c5, -bd__law_wrong_6]
        exact hk
      · have c6 : 9 < a.p := by omega
        simp [c5, c6, -bd__law_wrong_6]
        exact hk
    rw [if_neg (Classical.not_not.mpr c4)] at hk
    have c4a : ¬ a.p < 0 := by omega
    have c4b : ¬ 9 < a.p := by omega
    simp only [bd__law_wrong_6]
    simp [c4a, c4b, -bd__law_wrong_7, i4, sh]
    refine up_ok h4 ?_
    simp only [cl, ne_zl, ng]
    by_cases c5 : good a.h
    case neg =>
      rw [if_pos c5] at hk
      simp [c5, -bd__law_wrong_7]
      exact hk
    rw [if_neg (Classical.not_not.mpr c5)] at hk
    simp only [bd__law_wrong_7]
    simp [c5, i5, sc]
    refine up_ok h5 ?_
    simp only [cl, ne_zl, ng]
    by_cases c6 : good a.c
    case neg =>
      rw [if_pos c6] at hk
      simp [c6]
      exact hk
    rw [if_neg (Classical.not_not.mpr c6)] at hk
    simp [c6]
    exact hk
  cases em : a.m with
  | none =>
    rw [em] at hu
    simp [-bd__law_wrong_2, i1, i2, em, oi]
    subst hu
    exact fin
  | some v =>
    rw [em] at hu
    simp [-bd__law_wrong_2, i1, i2, em, oi]
    subst hu
    exact fin

end Tk48

namespace Tk48
open PySem PySem.Spec PyProof.Rows L2 DL
/-! k48: equal phases, others -/
theorem shaped_tup {ns : List Int} : SeqAt.shaped (.tuple (ns.map PyData.int)) = true := by
  unfold SeqAt.shaped
  rw [PyData.canLay0, PyData.depth, depth_ints, lay_ints]
  rfl
theorem eq_tz {M : Ms} {k : DK} {kx : DX} {ns ms : List Int} : fEqD false (.tup (zl ns)) (.tup (zl ms)) M k kx = k (.bl (decide (ns = ms))) M := by
  have e1 : ∀ l : List Int, toPyM M (.tup (l.map D.int)) = some (.tuple (l.map PyData.int)) := fun l => by
    show toPy (.tup (l.map D.int)) = _
    rw [toPy, toPy_ints]
  unfold fEqD
  simp only [e1, shaped_tup, PyData.eqv, ked_all]
  simp
theorem eqP_ok {M : Ms} {k : DK} {kx : DX} {g h c g' h' c' : List Int} {l m p l' m' p' : Int} {y y' : Bool} (hk : k (.bl (decide (g = g' ∧ l = l' ∧ m = m' ∧ p = p' ∧ h = h' ∧ c = c' ∧ y = y'))) M) : dn_Phase_eq_d [Pd g l m p h c y, Pd g' l' m' p' h' c' y'] M k kx := by
  have eb : (y == y') = decide (y = y') := by cases y <;> cases y' <;> rfl
  simp only [dn_Phase_eq_d, bd_Phase_eq_d]
  simp [Pd, eq_tz, eb]
  by_cases h1 : g = g'
  · by_cases h2 : l = l'
    · by_cases h3 : m = m'
      · by_cases h4 : p = p'
        · by_cases h5 : h = h'
          · by_cases h6 : c = c'
            · simpa [h1, h2, h3, h4, h5, h6, eq_tz, eb] using hk
            · simpa [h1, h2, h3, h4, h5, h6, eq_tz, eb] using hk
          · simpa [h1, h2, h3, h4, h5, eq_tz] using hk
        · simpa [h1, h2, h3, h4] using hk
      · simpa [h1, h2, h3] using hk
    · simpa [h1, h2] using hk
  · simpa [h1] using hk
theorem eqO_ok {M : Ms} {k : DK} {kx : DX} {g h c g' h' c' : List Int} {l m p l' m' p' : Int} {y y' : Bool} (hk : k (.bl (decide (g = g' ∧ l = l' ∧ m = m' ∧ p = p' ∧ h = h' ∧ c = c' ∧ y = y'))) M) :
    fOr fEqS (fOwn [("Phase", 2, [], dn_Phase_eq_d)]) (Pd g l m p h c y) (Pd g' l' m' p' h' c' y') M k kx := by
  refine Or.inr ?_
  unfold fOwn
  have e : insD M (Pd g l m p h c y) = some (("Phase" : Str), (["green", "least", "most", "pause", "holds", "calls", "yields"] : List Str), ([D.tup (zl g), D.int l, D.int m, D.int p, D.tup (zl h), D.tup (zl c), D.bl y] : List D)) := rfl
  simp only [e, lk_hd]
  exact ⟨rfl, rfl, eqP_ok hk⟩
abbrev tdL (g : List Int) (l m p : Int) (h c : List Int) (y : Bool) : List D := [.tup (zl g), .int l, .int m, .int p, .tup (zl h), .tup (zl c), .bl y]
theorem told_ok {M : Ms} {k : DK} {kx : DX} {g h c : List Int} {l m p : Int} {y : Bool} (hk : k (.tup (tdL g l m p h c y)) M) : dn__law_told [Pd g l m p h c y] M k kx := by
  simp only [dn__law_told, bd__law_told]
  simp [Pd]
  exact ⟨by decide, hk⟩
theorem wr_none {a : Ar} (h1 : good a.g) (h2 : 1 ≤ a.l ∧ a.l ≤ 12) (h3 : a.l ≤ a.m.getD a.l ∧ a.m.getD a.l ≤ 12) (h4 : 0 ≤ a.p ∧ a.p ≤ 9) (h5 : good a.h) (h6 : good a.c) : wr a = none := by
  unfold wr wrongP
  rw [if_neg (Classical.not_not.mpr h1), if_neg (Classical.not_not.mpr h2), if_neg (Classical.not_not.mpr h3), if_neg (Classical.not_not.mpr h4), if_neg (Classical.not_not.mpr h5), if_neg (Classical.not_not.mpr h6)]
theorem wr_inv {a : Ar} (h : wr a = none) : good a.g ∧ (1 ≤ a.l ∧ a.l ≤ 12) ∧ (a.l ≤ a.m.getD a.l ∧ a.m.getD a.l ≤ 12) ∧ (0 ≤ a.p ∧ a.p ≤ 9) ∧ good a.h ∧ good a.c := by
  unfold wr wrongP at h
  by_cases h1 : good a.g
  case neg => rw [if_pos h1] at h; cases h
  rw [if_neg (Classical.not_not.mpr h1)] at h
  by_cases h2 : 1 ≤ a.l ∧ a.l ≤ 12
  case neg => rw [if_pos h2] at h; cases h
  rw [if_neg (Classical.not_not.mpr h2)] at h
  by_cases h3 : a.l ≤ a.m.getD a.l ∧ a.m.getD a.l ≤ 12
  case neg => rw [if_pos h3] at h; cases h
  rw [if_neg (Classical.not_not.mpr h3)] at h
  by_cases h4 : 0 ≤ a.p ∧ a.p ≤ 9
  case neg => rw [if_pos h4] at h; cases h
  rw [if_neg (Classical.not_not.mpr h4)] at h
  by_cases h5 : good a.h
  case neg => rw [if_pos h5] at h; cases h
  rw [if_neg (Classical.not_not.mpr h5)] at h
  by_cases h6 : good a.c
  case neg => rw [if_pos h6] at h; cases h
  exact ⟨h1, h2, h3, h4, h5, h6⟩
def tog (G : List Int) (x : Nat) : List Int := ((List.range 6).filter (fun (i : Nat) => decide ((i : Int) ∈ G) != decide (i = x))).map (fun (i : Nat) => (i : Int))
theorem mem_tog {G : List Int} {x i : Nat} (h : i ≤ 5) : (i : Int) ∈ tog G x ↔ (decide ((i : Int) ∈ G) != decide (i = x)) = true := by
  unfold tog
  simp only [List.mem_map, List.mem_filter, List.mem_range]
  constructor
  · rintro ⟨j, ⟨h1, h2⟩, e⟩
    have e : j = i := by omega
    subst e
    exact h2
  · exact fun z => ⟨i, ⟨by omega, z⟩, rfl⟩
theorem good_tog {G : List Int} {x : Nat} : good (tog G x) := by
  refine ⟨fun y hy => ?_, ?_⟩
  · unfold tog at hy
    simp only [List.mem_map, List.mem_filter, List.mem_range] at hy
    obtain ⟨j, ⟨h1, _⟩, rfl⟩ := hy
    omega
  · unfold tog
    refine List.pairwise_map.mpr ?_
    exact List.Pairwise.imp (fun h => by omega) (List.Pairwise.filter _ List.pairwise_lt_range)
theorem tog_ne {G : List Int} {x : Nat} (h : x ≤ 5) : sortI (tog G x) ≠ G := by
  intro e
  have m1 := (sortI_perm (tog G x)).mem_iff (a := (x : Int))
  rw [e, mem_tog h] at m1
  simp at m1
theorem nes_bl {M : Ms} {k : DK} {kx : DX} {a b : Bool} : fNeS (.bl a) (.bl b) M k kx = k (.bl (a != b)) M := by
  cases a <;> cases b <;> rfl
theorem lc_tog {M : Ms} {k : DK} {G : List Int} {x : Nat} {Gm' : Gm} {part : Nat} {d : D} {kx : DX} {ds : List D} (h0 : Gm'[0]? = some (some (.tup ds))) (h1 : Gm'[1]? = some (some (.int (part : Nat)))) (h2 : Gm'[2]? = some (some (.int (x : Nat)))) (hl : 4 < Gm'.length)
    (hd : atI ds (part : Int) = some d) (hs : Sq M d G) (hk : k (.lst (zl (tog G x))) M) (hM : ∃ n, n = M.length) :
    dLc (iRng1 (dC (.int 6))) (bName 4) (dB (dBin fNeS (dBin (fIn false) (dVar 4) (dBin fIx (dVar 0) (dVar 1))) (dBin fEqS (dVar 4) (dVar 2)))) (dVar 4) [4] toLst Gm' M k kx := by
  have e : (((List.range 6).filter (fun (i : Nat) => decide ((i : Int) ∈ G) != decide (i = x))).map fun (i : Nat) => D.int (i : Int)) = zl (tog G x) := by
    unfold zl tog
    rw [List.map_map]
    rfl
  have e4 : ∀ v, (Gm'.set 4 v)[4]? = some v := fun v => List.getElem?_set_self hl
  have e0 : ∀ v, (Gm'.set 4 v)[0]? = some (some (.tup ds)) := fun v => by rw [List.getElem?_set_ne (by decide)]; exact h0
  have e1 : ∀ v, (Gm'.set 4 v)[1]? = some (some (.int (part : Nat))) := fun v => by rw [List.getElem?_set_ne (by decide)]; exact h1
  have e2 : ∀ v, (Gm'.set 4 v)[2]? = some (some (.int (x : Nat))) := fun v => by rw [List.getElem?_set_ne (by decide)]; exact h2
  rw [e_dLc]
  simp [rng6]
  refine ⟨by decide, ?_⟩
  refine lc_map (List.range 6) _ (fun (i : Nat) => D.int (i : Int)) (fun (i : Nat) => decide ((i : Int) ∈ G) != decide (i = x)) trivial (fun i hi => ⟨_, rfl, fun K hK => ?_, fun _ => ⟨rfl, fun K hK => ?_⟩⟩) ?_
  · have ci : ((i : Int) = (x : Int)) = (i = x) := propext (by omega)
    simp [e4, e0, e1, e2, e_ix (x := .tup ds) rfl hd, fin_z hs.seq, ci, nes_bl]
    simpa using hK
  · simp [e4]
    exact hK
  · rw [e]
    simpa [toLst] using hk
theorem other_ok {M : Ms} {k : DK} {kx : DX} {G H C : List Int} {l m p : Int} {y : Bool} {part x : Nat} (hp : part ≤ 6) (hx : x ≤ 5) (gG : good G) (gH : good H) (gC : good C) (hl : 1 ≤ l ∧ l ≤ 12) (hm : l ≤ m ∧ m ≤ 12) (hq : 0 ≤ p ∧ p ≤ 9)
    (hk : ∀ (a : Ar) (x0 x4 x5 : D), (∀ M, Sq M x0 a.g) → (∀ M, Sq M x4 a.h) → (∀ M, Sq M x5 a.c) → wr a = none → ¬ (G = sortI a.g ∧ l = a.l ∧ m = a.m.getD a.l ∧ p = a.p ∧ H = sortI a.h ∧ C = sortI a.c ∧ y = a.y) → k (.lst [x0, .int a.l, oi a.m, .int a.p, x4, x5, .bl a.y]) M) :
    dn__law_other [.tup (tdL G l m p H C y), .int (part : Nat), .int (x : Nat)] M k kx := by
  have sl : smallI l = true := decide_eq_true ⟨by omega, by omega⟩
  have sm : smallI m = true := decide_eq_true ⟨by omega, by omega⟩
  have sp : smallI p = true := decide_eq_true ⟨by omega, by omega⟩
  have tG : ∀ M, Sq M (.tup (zl G)) G := fun M => Or.inr (Or.inl rfl)
  have tH : ∀ M, Sq M (.tup (zl H)) H := fun M => Or.inr (Or.inl rfl)
  have tC : ∀ M, Sq M (.tup (zl C)) C := fun M => Or.inr (Or.inl rfl)
  have lG : ∀ M, Sq M (.lst (zl (tog G x))) (tog G x) := fun M => Or.inl rfl
  have lH : ∀ M, Sq M (.lst (zl (tog H x))) (tog H x) := fun M => Or.inl rfl
  have lC : ∀ M, Sq M (.lst (zl (tog C x))) (tog C x) := fun M => Or.inl rfl
  have cl : ∀ (ds : List D) (k : DK), cListM [.tup ds] M k = k (.cell M.length) (M ++ [.ml ds]) := fun ds k => rfl
  have hit : ∀ (ds : List D), (M ++ [MO.ml ds])[M.length]? = some (MO.ml ds) := fun ds => by simp
  have sto : ∀ (ds : List D) (t : Nat) (d : D), t < ds.length → plain d = true → stoD (M ++ [.ml ds]) (.cell M.length) (.int (t : Nat)) d = some (M ++ [.ml (ds.set t d)]) := fun ds t d ht hpl => by
    have hx : ixN ds.length (t : Int) = some t := by
      unfold ixN
      have : (t : Int) < (ds.length : Int) := by omega
      simp [this]
    rw [e_sto (hit ds) hx hpl]
    simp
  have fin : ∀ ds : List D, k (.lst ds) M → outK M.length k (.cell M.length) (M ++ [.ml ds]) := fun ds q => by
    have e : fzD (M ++ [MO.ml ds]) M.length = some (.lst ds, (M ++ [MO.ml ds]).set M.length MO.dead) := by
      unfold fzD
      simp
    simp [outK, e]
    exact q
  simp only [dn__law_other, bd__law_other]
  simp [-bd__law_other_1, cl]
  simp only [bd__law_other_1]
  have x1 : ∀ (M : Ms) (k : DK) (kx : DX), fIx (.tup (tdL G l m p H C y)) (.int 1) M k kx = k (.int l) M := fun M k kx => e_ix rfl rfl
  have x2 : ∀ (M : Ms) (k : DK) (kx : DX), fIx (.tup (tdL G l m p H C y)) (.int 2) M k kx = k (.int m) M := fun M k kx => e_ix rfl rfl
  have x3 : ∀ (M : Ms) (k : DK) (kx : DX), fIx (.tup (tdL G l m p H C y)) (.int 3) M k kx = k (.int p) M := fun M k kx => e_ix rfl rfl
  have x6 : ∀ (M : Ms) (k : DK) (kx : DX), fIx (.tup (tdL G l m p H C y)) (.int 6) M k kx = k (.bl y) M := fun M k kx => e_ix rfl rfl
  have last : outK M.length k (.cell M.length) (M ++ [.ml ((tdL G l m p H C y).set 3 (.int ((p + 1) % 10)))]) := by
    refine fin _ (hk ⟨G, l, some m, (p + 1) % 10, H, C, y⟩ (.tup (zl G)) (.tup (zl H)) (.tup (zl C)) tG tH tC (wr_none gG hl hm ⟨by show 0 ≤ (p + 1) % 10; omega, by show (p + 1) % 10 ≤ 9; omega⟩ gH gC) fun z => ?_)
    have := z.2.2.2.1
    have : p = (p + 1) % 10 := this
    omega
  have cases7 : part = 0 ∨ part = 1 ∨ part = 2 ∨ part = 3 ∨ part = 4 ∨ part = 5 ∨ part = 6 := by omega
  rcases cases7 with rfl | rfl | rfl | rfl | rfl | rfl | rfl
  · simp [-e_dLc, -bd__law_other_2]
    refine lc_tog (part := 0) (G := G) (x := x) rfl rfl rfl (by simp) (d := .tup (zl G)) rfl (tG _) ?_ ⟨_, rfl⟩
    have s := sto (tdL G l m p H C y) 0 (.lst (zl (tog G x))) (by simp) rfl
    simp at s
    have f := fin _ (hk ⟨tog G x, l, some m, p, H, C, y⟩ (.lst (zl (tog G x))) (.tup (zl H)) (.tup (zl C)) lG tH tC (wr_none good_tog hl hm hq gH gC) fun z => tog_ne hx (z.1.symm))
    simp [s]
    simpa [oi] using f
  · have s3 := sto (tdL G l m p H C y) 3 (.int ((p + 1) % 10)) (by simp) rfl
    have s1 := sto (tdL G l m p H C y) 1 (.int (l - 1)) (by simp) rfl
    have s2 := sto (tdL G l m p H C y) 1 (.int (l + 1)) (by simp) rfl
    simp at s1 s2 s3
    by_cases c1 : 1 < l
    · have f := fin _ (hk ⟨G, l - 1, some m, p, H, C, y⟩ (.tup (zl G)) (.tup (zl H)) (.tup (zl C)) tG tH tC (wr_none gG ⟨by show 1 ≤ l - 1; omega, by show l - 1 ≤ 12; omega⟩ ⟨by show l - 1 ≤ m; omega, hm.2⟩ hq gH gC) fun z => by have q : l = l - 1 := z.2.1; omega)
      simp [x1, x2, c1, sl, s1]
      simpa [oi] using f
    · by_cases c2 : l < m
      · have f := fin _ (hk ⟨G, l + 1, some m, p, H, C, y⟩ (.tup (zl G)) (.tup (zl H)) (.tup (zl C)) tG tH tC (wr_none gG ⟨by show 1 ≤ l + 1; omega, by show l + 1 ≤ 12; omega⟩ ⟨by show l + 1 ≤ m; omega, hm.2⟩ hq gH gC) fun z => by have q : l = l + 1 := z.2.1; omega)
        simp [x1, x2, c1, c2, sl, s2]
        simpa [oi] using f
      · simp [x1, x2, x3, c1, c2, sp, s3]
        simpa using last
  · have s3 := sto (tdL G l m p H C y) 3 (.int ((p + 1) % 10)) (by simp) rfl
    have s1 := sto (tdL G l m p H C y) 2 (.int (m + 1)) (by simp) rfl
    have s2 := sto (tdL G l m p H C y) 2 (.int (m - 1)) (by simp) rfl
    simp at s1 s2 s3
    by_cases c1 : m < 12
    · have f := fin _ (hk ⟨G, l, some (m + 1), p, H, C, y⟩ (.tup (zl G)) (.tup (zl H)) (.tup (zl C)) tG tH tC (wr_none gG hl ⟨by show l ≤ m + 1; omega, by show m + 1 ≤ 12; omega⟩ hq gH gC) fun z => by have q : m = m + 1 := z.2.2.1; omega)
      simp [x1, x2, c1, sm, s1]
      simpa [oi] using f
    · by_cases c2 : l < m
      · have f := fin _ (hk ⟨G, l, some (m - 1), p, H, C, y⟩ (.tup (zl G)) (.tup (zl H)) (.tup (zl C)) tG tH tC (wr_none gG hl ⟨by show l ≤ m - 1; omega, by show m - 1 ≤ 12; omega⟩ hq gH gC) fun z => by have q : m = m - 1 := z.2.2.1; omega)
        simp [x1, x2, c1, c2, sm, s2]
        simpa [oi] using f
      · simp [x1, x2, x3, c1, c2, sp, s3]
        simpa using last
  · have s3 := sto (tdL G l m p H C y) 3 (.int ((p + 1) % 10)) (by simp) rfl
    simp at s3
    simp [x3, sp, s3]
    simpa using last
  · simp [-e_dLc, -bd__law_other_2]
    refine lc_tog (part := 4) (G := H) (x := x) rfl rfl rfl (by simp) (d := .tup (zl H)) rfl (tH _) ?_ ⟨_, rfl⟩
    have s := sto (tdL G l m p H C y) 4 (.lst (zl (tog H x))) (by simp) rfl
    simp at s
    have f := fin _ (hk ⟨G, l, some m, p, tog H x, C, y⟩ (.tup (zl G)) (.lst (zl (tog H x))) (.tup (zl C)) tG lH tC (wr_none gG hl hm hq good_tog gC) fun z => tog_ne hx (z.2.2.2.2.1.symm))
    simp [s]
    simpa [oi] using f
  · simp [-e_dLc, -bd__law_other_2]
    refine lc_tog (part := 5) (G := C) (x := x) rfl rfl rfl (by simp) (d := .tup (zl C)) rfl (tC _) ?_ ⟨_, rfl⟩
    have s := sto (tdL G l m p H C y) 5 (.lst (zl (tog C x))) (by simp) rfl
    simp at s
    have f := fin _ (hk ⟨G, l, some m, p, H, tog C x, y⟩ (.tup (zl G)) (.tup (zl H)) (.lst (zl (tog C x))) tG tH lC (wr_none gG hl hm hq gH good_tog) fun z => tog_ne hx (z.2.2.2.2.2.1.symm))
    simp [s]
    simpa [oi] using f
  · have s6 := sto (tdL G l m p H C y) 6 (.bl (!y)) (by simp) rfl
    simp at s6
    have f := fin _ (hk ⟨G, l, some m, p, H, C, !y⟩ (.tup (zl G)) (.tup (zl H)) (.tup (zl C)) tG tH tC (wr_none gG hl hm hq gH gC) fun z => by have q : y = !y := z.2.2.2.2.2.2; cases y <;> cases q)
    simp [x6, s6]
    simpa [oi] using f

end Tk48

namespace Tk48
open PySem PySem.Spec PyProof.Rows L2 DL
/-! k48: what is drawn -/
theorem number_ok {M : Ms} {k : DK} {kx : DX} {i : Nat} {hs : List D} {free : Bool} {low high : Int} (hM : M[i]? = some (.ml hs)) (hh : Hand hs) (h0 : 0 ≤ low) (h1 : low ≤ 12) (h2 : high ≤ 12) (h3 : low ≤ high)
    (hk : ∀ (z : Int) h', -2000000000 ≤ z → z ≤ 2000000000 → Hand h' → k (.int z) (M.set i (.ml h'))) : dn__law_number [.cell i, .bl free, .int low, .int high] M k kx := by
  have hi : i < M.length := (List.getElem?_eq_some_iff.mp hM).1
  have hg : ∀ x : MO, (M.set i x)[i]? = some x := fun x => List.getElem?_set_self hi
  have s1 : smallI low = true := decide_eq_true ⟨by omega, by omega⟩
  have s2 : smallI high = true := decide_eq_true ⟨by omega, by omega⟩
  have s3 : smallI (high - low) = true := decide_eq_true ⟨by omega, by omega⟩
  simp only [dn__law_number, bd__law_number]
  cases free with
  | false =>
    simp [-bd__law_number_1, s1, s2, s3]
    refine take_ok (many := high - low + 1) hM hh (by omega) (by omega) fun w h3 w0 w1 hh3 => ?_
    have s4 : smallI w = true := decide_eq_true ⟨by omega, by omega⟩
    simp [s4]
    exact hk _ h3 (by omega) (by omega) hh3
  | true =>
    simp only [bd__law_number_1]
    simp [-bd__law_number_2]
    refine take_ok hM hh (by decide) (by decide) fun w h3 w0 w1 hh3 => ?_
    by_cases c : w = 0
    · simp [c, -bd__law_number_2]
      refine ⟨by first | exact Or.inl (by decide) | decide, ?_⟩
      refine take_ok (many := 2000000001) (hg _) hh3 (by decide) (by decide) fun z h4 z0 z1 hh4 => ?_
      have s4 : smallI z = true := decide_eq_true ⟨by omega, by omega⟩
      simp [s4]
      exact hk _ h4 (by omega) (by omega) hh4
    · simp [c]
      refine take_ok (hg _) hh3 (by decide) (by decide) fun z h4 z0 z1 hh4 => ?_
      have s4 : smallI z = true := decide_eq_true ⟨by omega, by omega⟩
      simp [s4]
      exact hk _ h4 (by omega) (by omega) hh4
/-- the store while a row is drawn -/
def stR (M : Ms) (i : Nat) (h : List D) (xs : List Int) : Ms := M.set i (.ml h) ++ [.ml (zl xs)]
theorem stR_h {M : Ms} {i : Nat} {h : List D} {xs : List Int} (hi : i < M.length) : (stR M i h xs)[i]? = some (.ml h) := by
  unfold stR
  rw [List.getElem?_append_left (by simpa using hi), List.getElem?_set_self hi]
theorem stR_hs {M : Ms} {i : Nat} {h h' : List D} {xs : List Int} (hi : i < M.length) : (stR M i h xs).set i (.ml h') = stR M i h' xs := by
  unfold stR
  rw [List.set_append_left _ _ (by simpa using hi), List.set_set]
theorem stR_r {M : Ms} {i : Nat} {h : List D} {xs : List Int} : (stR M i h xs)[M.length]? = some (.ml (zl xs)) := by
  unfold stR
  rw [List.getElem?_append_right (by simp)]
  simp
theorem stR_rs {M : Ms} {i : Nat} {h : List D} {xs ys : List Int} : (stR M i h xs).set M.length (.ml (zl ys)) = stR M i h ys := by
  unfold stR
  rw [List.set_append_right _ _ (by simp)]
  simp
theorem stR_fin {M : Ms} {i : Nat} {h : List D} {xs : List Int} {k : DK} (hi : i < M.length) (hk : k (.lst (zl xs)) (M.set i (.ml h))) : outK M.length k (.cell M.length) (stR M i h xs) := by
  have e : fzD (stR M i h xs) M.length = some (.lst (zl xs), (stR M i h xs).set M.length .dead) := by
    unfold fzD
    rw [stR_r]
  unfold outK
  simp only [Nat.lt_irrefl, if_false, e]
  unfold stR
  rw [List.take_append_of_le_length (by simp), List.take_of_length_le (by simp)]
  exact hk
theorem ins_ok {M : Ms} {i : Nat} {h : List D} {xs : List Int} {j x : Int} (hl : xs.length ≤ 100) (h0 : 0 ≤ j) (h1 : j < 100) : ∃ ys : List Int, ys.length = xs.length + 1 ∧ insD1 (stR M i h xs) (.cell M.length) (.int j) (.int x) = some (stR M i h ys) := by
  refine ⟨xs.take j.toNat ++ [x] ++ xs.drop j.toNat, ?_, ?_⟩
  · simp only [List.length_append, List.length_take, List.length_drop, List.length_cons, List.length_nil]
    omega
  · unfold insD1
    simp only [stR_r]
    have hb : (zl xs).length < big := by
      rw [List.length_map]
      unfold big
      omega
    have e : (zl xs).take j.toNat ++ [.int x] ++ (zl xs).drop j.toNat = zl (xs.take j.toNat ++ [x] ++ xs.drop j.toNat) := by simp [zl]
    rw [if_pos ⟨rfl, hb, h0, by omega⟩, e, stR_rs]
theorem isLC_r {M : Ms} {i : Nat} {h : List D} {xs : List Int} : isLC (stR M i h xs) (.cell M.length) = true := by
  unfold isLC
  simp only [stR_r]
theorem len_r {M : Ms} {i : Nat} {h : List D} {xs : List Int} {k : DK} : cLen [.cell M.length] (stR M i h xs) k = k (.int (xs.length : Nat)) (stR M i h xs) := by
  rw [e_len_cell stR_r, List.length_map]
theorem streams_d {M : Ms} {k : DK} {kx : DX} {i : Nat} {hs : List D} {free : Bool} (hM : M[i]? = some (.ml hs)) (hh : Hand hs)
    (hk : ∀ (xs : List Int) h', xs.length ≤ 20 → Hand h' → k (.lst (zl xs)) (M.set i (.ml h'))) : dn__law_streams [.cell i, .bl free] M k kx := by
  have hi : i < M.length := (List.getElem?_eq_some_iff.mp hM).1
  have hg : ∀ x : MO, (M.set i x)[i]? = some x := fun x => List.getElem?_set_self hi
  have fin : ∀ (h : List D) (xs : List Int), Hand h → xs.length ≤ 20 → outK M.length k (.cell M.length) (stR M i h xs) := fun h xs hh hl => stR_fin hi (hk xs h hl hh)
  have T5 : ∀ (h : List D) (xs : List Int) (v3 v5 v6 : Option D) (w : Int), Hand h → xs.length ≤ 10 →
      Bd__law_streams_5 ⟨fun _ M' => k .non (M'.take M.length), outK M.length k, fun _ _ => False, fun _ _ => False, fun x _ M' => kx x (M'.take M.length)⟩ [some (.cell i), some (.bl free), some (.int w), v3, some (.cell M.length), v5, v6, none] (stR M i h xs) := by
    intro h xs v3 v5 v6 w hh hl
    simp only [bd__law_streams_5]
    simp [len_r]
    by_cases c1 : free = true
    · by_cases c2 : w = 2
      · by_cases c3 : 0 < xs.length
        · simp [c1, c2, c3, len_r]
          refine take_ok (many := (xs.length : Nat)) (stR_h hi) hh (by omega) (by omega) fun z h2 z0 z1 hh2 => ?_
          rw [stR_hs hi]
          obtain ⟨z, rfl⟩ := Int.eq_ofNat_of_zero_le z0
          have hz : z < xs.length := by omega
          have ez : atI (zl xs) (z : Int) = some (.int xs[z]) := at_map hz
          have sq : seqX (stR M i h2 xs) (.cell M.length) = some (zl xs) := by rw [seqX_ceq, stR_r]
          simp [e_ixX sq ez, isLC_r, len_r]
          refine take_ok (many := (xs.length : Nat) + 1) (stR_h hi) hh2 (by omega) (by omega) fun y h3 y0 y1 hh3 => ?_
          rw [stR_hs hi]
          obtain ⟨ys, e1, e2⟩ := ins_ok (M := M) (i := i) (h := h3) (xs := xs) (x := xs[z]) (by omega) y0 (by omega)
          simp [e2]
          simpa using fin h3 ys hh3 (by omega)
        · simp [c1, c2, c3]
          simpa using fin h xs hh (by omega)
      · simp [c1, c2]
        simpa using fin h xs hh (by omega)
    · simp [c1]
      simpa using fin h xs hh (by omega)
  have T4 : ∀ (h : List D) (xs : List Int) (v3 v5 : Option D) (w : Int), Hand h → xs.length ≤ 7 →
      Bd__law_streams_4 ⟨fun _ M' => k .non (M'.take M.length), outK M.length k, fun _ _ => False, fun _ _ => False, fun x _ M' => kx x (M'.take M.length)⟩ [some (.cell i), some (.bl free), some (.int w), v3, some (.cell M.length), v5, none, none] (stR M i h xs) := by
    intro h xs v3 v5 w hh hl
    simp only [bd__law_streams_4]
    simp [-bd__law_streams_5]
    by_cases c1 : free = true
    · by_cases c2 : w = 1
      · simp [c1, c2, -bd__law_streams_5]
        refine ⟨by decide, ?_⟩
        refine take_ok (many := 4) (stR_h hi) hh (by decide) (by decide) fun z h2 z0 z1 hh2 => ?_
        rw [stR_hs hi]
        have cz : z = 0 ∨ z = 1 ∨ z = 2 ∨ z = 3 := by omega
        obtain ⟨f, hf⟩ : ∃ f : Int, ∀ k kx, fIx (.lst [.int 6, .int (-1), .int 1000000000, .int (-1000000000)]) (.int z) (stR M i h2 xs) k kx = k (.int f) (stR M i h2 xs) := by
          rcases cz with rfl | rfl | rfl | rfl
          · exact ⟨6, fun k kx => by simp [fIx, seqX, seqD, atI, ixN]⟩
          · exact ⟨-1, fun k kx => by simp [fIx, seqX, seqD, atI, ixN]⟩
          · exact ⟨1000000000, fun k kx => by simp [fIx, seqX, seqD, atI, ixN]⟩
          · exact ⟨-1000000000, fun k kx => by simp [fIx, seqX, seqD, atI, ixN]⟩
        simp [hf, isLC_r, len_r, -bd__law_streams_5]
        refine take_ok (many := (xs.length : Nat) + 1) (stR_h hi) hh2 (by omega) (by omega) fun y h3 y0 y1 hh3 => ?_
        rw [stR_hs hi]
        obtain ⟨ys, e1, e2⟩ := ins_ok (M := M) (i := i) (h := h3) (xs := xs) (x := f) (by omega) y0 (by omega)
        simp [e2, -bd__law_streams_5]
        have t := T5 h3 ys v3 v5 (some (.int f)) 1 hh3 (by omega)
        simp only [c1] at t
        exact t
      · simp [c1, c2, -bd__law_streams_5]
        have t := T5 h xs v3 v5 none w hh (by omega)
        simp only [c1] at t
        exact t
    · simp [c1, -bd__law_streams_5]
      have t := T5 h xs v3 v5 none w hh (by omega)
      simp only [c1] at t
      exact t
  simp only [dn__law_streams, bd__law_streams]
  simp [-bd__law_streams_1]
  refine take_ok hM hh (by decide) (by decide) fun w h1 w0 w1 hh1 => ?_
  have T2 : Bd__law_streams_2 ⟨fun _ M' => k .non (M'.take M.length), outK M.length k, fun _ _ => False, fun _ _ => False, fun x _ M' => kx x (M'.take M.length)⟩ [some (.cell i), some (.bl free), some (.int w), none, none, none, none, none] (M.set i (.ml h1)) := by
    simp only [bd__law_streams_2]
    simp [-bd__law_streams_3]
    simp only [bd__law_streams_3]
    have e0 : M.set i (.ml h1) ++ [.ml []] = stR M i h1 [] := rfl
    rw [e0]
    simp [-bd__law_streams_4]
    refine take_ok (stR_h hi) hh1 (by decide) (by decide) fun n h2 n0 n1 hh2 => ?_
    rw [stR_hs hi]
    obtain ⟨n, rfl⟩ := Int.eq_ofNat_of_zero_le n0
    simp [-bd__law_streams_4]
    refine ⟨by omega, ?_⟩
    rw [rng0]
    refine for_seq (P := fun q G M' => ∃ (h : List D) (xs : List Int) (v3 v5 : Option D), G = [some (.cell i), some (.bl free), some (.int w), v3, some (.cell M.length), v5, none, none] ∧ M' = stR M i h xs ∧ Hand h ∧ xs.length + q.length ≤ 7) (fun _ _ _ _ => trivial) (fun x q G M' N p hN => ?_) (fun G M' p => ?_) _ _ _ ?_
    · obtain ⟨h, xs, v3, v5, rfl, rfl, hh, hl⟩ := p
      rw [List.length_cons] at hl
      refine ⟨_, rfl, ?_⟩
      simp
      refine take_ok (stR_h hi) hh (by decide) (by decide) fun z h3 z0 z1 hh3 => ?_
      rw [stR_hs hi]
      have sq : seqD (stR M i h3 xs) (.cell M.length) = some (zl xs) := by rw [seqD_ceq, stR_r]
      simp [fin_z sq]
      by_cases c : z ∈ xs
      · simp [c]
        exact hN _ _ ⟨h3, xs, _, _, rfl, rfl, hh3, by omega⟩
      · have ap : appD (stR M i h3 xs) (.cell M.length) (.int z) = some (stR M i h3 (xs ++ [z])) := by
          unfold appD
          simp only [stR_r]
          have hb : (zl xs).length < big := by
            rw [List.length_map]
            unfold big
            omega
          have e : zl xs ++ [.int z] = zl (xs ++ [z]) := by simp [zl]
          rw [if_pos ⟨rfl, hb⟩, e, stR_rs]
        simp [c, isLC_r, ap]
        exact hN _ _ ⟨h3, xs ++ [z], _, _, rfl, rfl, hh3, by simp; omega⟩
    · obtain ⟨h, xs, v3, v5, rfl, rfl, hh, hl⟩ := p
      exact T4 h xs v3 v5 w hh (by simpa using hl)
    · exact ⟨h2, [], none, none, rfl, rfl, hh2, by simp; omega⟩
  simp only [bd__law_streams_1]
  simp [-bd__law_streams_2, -e_dLc]
  by_cases c1 : free = true
  · by_cases c2 : w = 0
    · rw [if_pos c1, if_pos c2, e_dLc]
      simp
      refine take_ok (hg _) hh1 (by decide) (by decide) fun n h2 n0 n1 hh2 => ?_
      rw [List.set_set]
      obtain ⟨n, rfl⟩ := Int.eq_ofNat_of_zero_le n0
      simp
      refine ⟨by omega, by rw [rng0]; simp [big]; omega, ?_⟩
      rw [rng0]
      refine lc_seq (P := fun q acc M' => ∃ (h : List D) (xs : List Int), acc = zl xs ∧ M' = M.set i (.ml h) ∧ Hand h ∧ xs.length + q.length ≤ 20) (fun _ _ _ _ => trivial) (fun x q acc M' N p hN => ?_) (fun acc M' p => ?_) _ [] _ ?_
      · obtain ⟨h, xs, rfl, rfl, hh, hl⟩ := p
        rw [List.length_cons] at hl
        refine ⟨_, rfl, ?_⟩
        simp
        refine take_ok (hg _) hh (by decide) (by decide) fun z h3 z0 z1 hh3 => ?_
        rw [List.set_set]
        have s4 : smallI z = true := decide_eq_true ⟨by omega, by omega⟩
        simp [s4]
        exact hN _ _ ⟨h3, xs ++ [z - 2], by simp [zl], rfl, hh3, by simp; omega⟩
      · obtain ⟨h, xs, rfl, rfl, hh, hl⟩ := p
        simp
        exact hk xs h (by simpa using hl) hh
      · exact ⟨h2, [], rfl, rfl, hh2, by simp; omega⟩
    · rw [if_pos c1, if_neg c2]
      exact T2
  · rw [if_neg c1]
    exact T2
/-- the arguments drawn -/
theorem args_ok {M : Ms} {k : DK} {kx : DX} {ns : List Int} (hk : ∀ a : Ar, a.g.length ≤ 20 → a.h.length ≤ 20 → a.c.length ≤ 20 → k (.lst a.ds) M) : dn__law_args [.rl (ns.map .int)] M k kx := by
  have hM0 : ∀ x : MO, (M ++ [x])[M.length]? = some x := fun x => by simp
  have hs0 : ∀ x y : MO, (M ++ [x]).set M.length y = M ++ [y] := fun x y => by simp
  simp only [dn__law_args, bd__law_args]
  simp [-bd__law_args_1]
  refine hand_ok (i := 0) fun h1 hh1 => ?_
  simp only [bd__law_args_1]
  simp [-bd__law_args_2]
  refine take_ok (hM0 _) hh1 (by decide) (by decide) fun mood h2 m0 m1 hh2 => ?_
  rw [hs0]
  simp only [bd__law_args_2]
  simp [-bd__law_args_3]
  refine take_ok (hM0 _) hh2 (by decide) (by decide) fun spot h3 s0 s1 hh3 => ?_
  rw [hs0]
  simp only [bd__law_args_3]
  simp [-bd__law_args_4, -e_dLc]
  rw [e_dLc]
  simp [-bd__law_args_4, rng6]
  refine ⟨by decide, ?_⟩
  refine lc_map (List.range 6) _ (fun (i : Nat) => D.bl (decide (mood = 2 ∨ (mood = 1 ∧ spot = (i : Int))))) (fun _ => true) trivial (fun i hi => ⟨_, rfl, fun K hK => ?_, fun _ => ⟨rfl, fun K hK => ?_⟩⟩) ?_
  · simpa using hK
  · by_cases c2 : mood = 2
    · simp [c2] at hK ⊢
      exact hK
    · by_cases c1 : mood = 1
      · simp [c1] at hK ⊢
        exact hK
      · simp [c1, c2] at hK ⊢
        exact hK
  rw [filter_yes]
  obtain ⟨b0, b1, b2, b3, b4, b5, eb⟩ : ∃ b0 b1 b2 b3 b4 b5 : Bool, (List.range 6).map (fun (i : Nat) => D.bl (decide (mood = 2 ∨ (mood = 1 ∧ spot = (i : Int))))) = [.bl b0, .bl b1, .bl b2, .bl b3, .bl b4, .bl b5] := ⟨_, _, _, _, _, _, rfl⟩
  rw [eb]
  obtain ⟨bs, hbs⟩ : ∃ bs : List D, bs = [.bl b0, .bl b1, .bl b2, .bl b3, .bl b4, .bl b5] := ⟨_, rfl⟩
  have j0 : ∀ (M : Ms) (k : DK) (kx : DX), fIx (.lst bs) (.int 0) M k kx = k (.bl b0) M := fun M k kx => e_ix rfl (by rw [hbs]; simp [atI, ixN])
  have j1 : ∀ (M : Ms) (k : DK) (kx : DX), fIx (.lst bs) (.int 1) M k kx = k (.bl b1) M := fun M k kx => e_ix rfl (by rw [hbs]; simp [atI, ixN])
  have j2 : ∀ (M : Ms) (k : DK) (kx : DX), fIx (.lst bs) (.int 2) M k kx = k (.bl b2) M := fun M k kx => e_ix rfl (by rw [hbs]; simp [atI, ixN])
  have j3 : ∀ (M : Ms) (k : DK) (kx : DX), fIx (.lst bs) (.int 3) M k kx = k (.bl b3) M := fun M k kx => e_ix rfl (by rw [hbs]; simp [atI, ixN])
  have j4 : ∀ (M : Ms) (k : DK) (kx : DX), fIx (.lst bs) (.int 4) M k kx = k (.bl b4) M := fun M k kx => e_ix rfl (by rw [hbs]; simp [atI, ixN])
  have j5 : ∀ (M : Ms) (k : DK) (kx : DX), fIx (.lst bs) (.int 5) M k kx = k (.bl b5) M := fun M k kx => e_ix rfl (by rw [hbs]; simp [atI, ixN])
  rw [← hbs]
  simp only [bd__law_args_4]
  simp [-bd__law_args_5, j1]
  refine number_ok (hM0 _) hh3 (by decide) (by decide) (by decide) (by decide) fun lo h4 l0 l1 hh4 => ?_
  rw [hs0]
  simp only [bd__law_args_5]
  simp [-bd__law_args_6]
  have T7 : ∀ (m : Option Int) (h : List D), Hand h → Bd__law_args_7 ⟨fun _ M' => k .non (M'.take M.length), outK M.length k, fun _ _ => False, fun _ _ => False, fun x _ M' => kx x (M'.take M.length)⟩
      [some (.rl (ns.map D.int)), some (.cell M.length), some (.int mood), some (.int spot), some (.lst bs), none, some (.int lo), some (oi m), none, none, none, none, none] (M ++ [.ml h]) := by
    intro m h hh
    simp only [bd__law_args_7]
    simp [-bd__law_args_8, j3]
    refine number_ok (hM0 _) hh (by decide) (by decide) (by decide) (by decide) fun ca h5 _ _ hh5 => ?_
    rw [hs0]
    simp only [bd__law_args_8]
    simp [-bd__law_args_9]
    refine take_ok (hM0 _) hh5 (by decide) (by decide) fun gi h6 _ _ hh6 => ?_
    rw [hs0]
    simp [-bd__law_args_9]
    simp only [bd__law_args_9]
    simp [-bd__law_args_10, j0]
    refine hand_ok (i := 1) fun h7 hh7 => ?_
    simp [-bd__law_args_10, j0]
    have g1 : ∀ x y : MO, (M ++ [x, y])[M.length + 1]? = some y := fun x y => by
      rw [List.getElem?_append_right (by omega)]
      simp
    refine streams_d (g1 _ _) hh7 fun xs h8 hx _ => ?_
    simp [-bd__law_args_10]
    simp only [bd__law_args_10]
    simp [-bd__law_args_11, j4]
    have g2 : ∀ x y z : MO, (M ++ [x, y, z])[M.length + 2]? = some z := fun x y z => by
      rw [List.getElem?_append_right (by omega)]
      simp
    have g3 : ∀ x y z u : MO, (M ++ [x, y, z, u])[M.length + 3]? = some u := fun x y z u => by
      rw [List.getElem?_append_right (by omega)]
      simp
    refine hand_ok (i := 2) fun h9 hh9 => ?_
    simp [-bd__law_args_11]
    refine streams_d (g2 _ _ _) hh9 fun ys h10 hy _ => ?_
    simp [-bd__law_args_11]
    simp only [bd__law_args_11]
    simp [-bd__law_args_12, j5]
    refine hand_ok (i := 3) fun h11 hh11 => ?_
    simp [-bd__law_args_12]
    refine streams_d (g3 _ _ _ _) hh11 fun zs h12 hz _ => ?_
    simp [-bd__law_args_12]
    simp only [bd__law_args_12]
    simp
    exact ⟨by cases m <;> rfl, by decide, hk ⟨xs, lo, m, ca, ys, zs, decide (gi = 1)⟩ hx hy hz⟩
  have e0 : D.non = oi none := rfl
  simp only [bd__law_args_6]
  simp [-bd__law_args_7]
  refine take_ok (hM0 _) hh4 (by decide) (by decide) fun up_ h5 u0 u1 hh5 => ?_
  rw [hs0]
  by_cases c : 0 < up_
  · simp [c, -bd__law_args_7, j2]
    refine number_ok (hM0 _) hh5 (by omega) (by omega) (by decide) (by omega) fun m h6 _ _ hh6 => ?_
    rw [hs0]
    exact T7 (some m) h6 hh6
  · simp [c, -bd__law_args_7]
    exact T7 none h5 hh5

end Tk48

namespace Tk48
open PySem PySem.Spec PyProof.Rows L2 DL
/-! k48: rows handed over -/
theorem isi_lc {M : Ms} {k : DK} {t : ITab} {j : Nat} {T : String} {b : Bool} (hj : tyD M (.cell j) = some "list") (e3 : isB "list" T = some b) : cIsi t [.cell j, .ty T] M k = k (.bl b) M := by
  have e2 : tyOfD M (.cell j) = some (.ty "list") := by
    unfold tyOfD
    rw [hj]
  unfold cIsi
  simp only [e2, clsD, lookI, e3]
theorem ty_ml {M : Ms} {j : Nat} {ds : List D} (h : M[j]? = some (.ml ds)) : tyD M (.cell j) = some "list" := by
  unfold tyD
  simp only [h]
theorem ty_mx {M : Ms} {j : Nat} {ds : List D} (h : M[j]? = some (.mx false ds)) : tyD M (.cell j) = some "list" := by
  unfold tyD
  simp only [h]
theorem is_cn {M : Ms} {k : DK} {kx : DX} {j : Nat} : fIs (.cell j) .non M k kx = k (.bl false) M := by simp [fIs, notRaw]
theorem is_cb {M : Ms} {k : DK} {kx : DX} {j : Nat} {b : Bool} : fIs (.cell j) (.bl b) M k kx = k (.bl false) M := by simp [fIs, notRaw]
theorem len_X {M : Ms} {k : DK} {j : Nat} {ds : List D} (h : seqX M (.cell j) = some ds) : cLen [.cell j] M k = k (.int (ds.length : Nat)) M := by
  simp [cLen, lenD, h]
theorem same_ll {M : Ms} {k : DK} {kx : DX} {fu i j : Nat} {ds es : List D} (ti : tyD M (.cell i) = some "list") (tj : tyD M (.cell j) = some "list") (hs : seqX M (.cell i) = some ds) (hs' : seqX M (.cell j) = some es) (hl : ds.length = es.length) (hb : es.length ≤ big)
    (h : ∀ (i : Nat) (x y : D), ds[i]? = some x → es[i]? = some y → ∀ (k : DK) (kx : DX), k (.bl true) M → dn__law_same fu [x, y] M k kx) (hk : k (.bl true) M) : dn__law_same (fu + 1) [.cell i, .cell j] M k kx := by
  have hb2 : es.length < 1099511627776 := by unfold big at hb; omega
  have e1 : ∀ k : DK, cIsi itab [.cell j, .ty "int"] M k = k (.bl false) M := fun k => isi_lc tj (by decide +kernel)
  have e2 : ∀ k : DK, cIsi itab [.cell j, .ty "str"] M k = k (.bl false) M := fun k => isi_lc tj (by decide +kernel)
  have e3 : ∀ k : DK, cIsi itab [.cell j, .ty "tuple"] M k = k (.bl false) M := fun k => isi_lc tj (by decide +kernel)
  have e4 : ∀ k : DK, cIsi itab [.cell j, .ty "list"] M k = k (.bl true) M := fun k => isi_lc tj (by decide +kernel)
  have e5 : ∀ k : DK, cIsi itab [.cell i, .ty "list"] M k = k (.bl true) M := fun k => isi_lc ti (by decide +kernel)
  simp only [dn__law_same, bd__law_same]
  simp [is_cn, is_cb, e1, e2, e3, e4, e5, len_X hs, len_X hs', hl, hb2]
  refine ⟨by omega, ?_⟩
  rw [rng0]
  refine for_seq (P := fun r G M' => M' = M ∧ (∃ v, G = [some (.cell i), some (.cell j), v]) ∧ ∀ x ∈ r, ∃ t : Nat, t < es.length ∧ x = D.int (t : Nat)) (fun _ _ _ _ => trivial) (fun x r G M' N q hN => ?_) (fun G M' q => ?_) _ _ _ ⟨rfl, ⟨_, rfl⟩, fun x hx => ?_⟩
  · obtain ⟨rfl, ⟨v, rfl⟩, hm⟩ := q
    obtain ⟨t, hi, rfl⟩ := hm x (List.mem_cons_self ..)
    have hi2 : t < ds.length := by omega
    have e : atI ds (t : Int) = some ds[t] := by
      unfold atI ixN
      simp [hi2]
    have e' : atI es (t : Int) = some es[t] := by
      unfold atI ixN
      simp [hi]
    refine ⟨_, rfl, ?_⟩
    simp [e_ixX hs e, e_ixX hs' e']
    refine h t _ _ (List.getElem?_eq_getElem hi2) (List.getElem?_eq_getElem hi) _ _ ?_
    simp
    exact hN _ _ ⟨rfl, ⟨_, rfl⟩, fun y hy => hm y (List.mem_cons_of_mem _ hy)⟩
  · obtain ⟨rfl, _⟩ := q
    simpa using hk
  · obtain ⟨t, hi, rfl⟩ := List.mem_map.mp hx
    exact ⟨t, by simpa using hi, rfl⟩
theorem same_int {M : Ms} {k : DK} {kx : DX} {fu i j : Nat} {xs : List Int} (hl : xs.length ≤ 20) (hi : M[i]? = some (.ml (zl xs))) (hj : M[j]? = some (.ml (zl xs))) (hk : k (.bl true) M) : dn__law_same (fu + 2) [.cell i, .cell j] M k kx := by
  have b : (zl xs).length ≤ big := by
    rw [List.length_map]
    unfold big
    omega
  refine same_ll (ty_ml hi) (ty_ml hj) (by rw [seqX_ceq, hi]) (by rw [seqX_ceq, hj]) rfl b (fun t x y e1 e2 k kx hk => ?_) hk
  rw [e1] at e2
  cases e2
  obtain ⟨z, _, rfl⟩ := List.mem_map.mp (List.mem_of_getElem? e1)
  exact same_ok (fu + 1) _ _ _ _ trivial hk
/-- an item that is handed over: a list of its own, or a tuple -/
def Hd (lists : Bool) (S : Ms) (L : Nat) (xs : List Int) (x : D) : Prop := if lists = true then ∃ i, x = .cell i ∧ L ≤ i ∧ S[i]? = some (.ml (zl xs)) else x = .tup (zl xs)
abbrev hBody : DTS := (dSeq (dSubS 2 (dVar 3) (dCB cListM (dCons (dBin fIx (dVar 0) (dVar 3)) dNil))) (dIf (dNot (dTr (dVar 1))) (dSubS 2 (dVar 3) (dCB cTuple (dCons (dBin fIx (dVar 0) (dVar 3)) dNil))) dNext))
theorem lisX_last {S : Ms} {ds : List D} {j : Nat} : lisX (S.set j .dead ++ [.mx false ds]) S.length = some ds := by
  unfold lisX
  rw [List.getElem?_append_right (by simp)]
  simp
theorem pre_set {M S : Ms} {j : Nat} {v : MO} (h : M <+: S) (hj : M.length ≤ j) : M <+: S.set j v := by
  obtain ⟨N, rfl⟩ := h
  rw [List.set_append_right _ _ hj]
  exact ⟨_, rfl⟩
theorem pre_app {M S N : Ms} (h : M <+: S) : M <+: S ++ N := h.trans ⟨N, rfl⟩
theorem ix7 {n t : Nat} (hn : n = 7) (ht : t < 7) : ixN n (t : Int) = some t := by
  subst hn
  unfold ixN
  have : (t : Int) < 7 := by omega
  simp [this]
/-- the row moved behind -/
theorem mv_S {S : Ms} {ds : List D} {j t : Nat} {x : D} (hs : lisX S j = some ds) (hl : ds.length = 7) (ht : t < 7) : mvD S (.cell j) (.int (t : Nat)) x = some (S.set j MO.dead ++ [MO.mx false (ds.set t x)]) := by
  unfold mvD
  simp only [hs, ix7 hl ht]
theorem at_last {S : Ms} {j : Nat} {v w : MO} : (S.set j v ++ [w])[S.length]? = some w := by
  rw [List.getElem?_append_right (by simp)]
  simp
theorem at_old {S : Ms} {i j : Nat} {v w : MO} (hi : i ≠ j) (h : i < S.length) : (S.set j v ++ [w])[i]? = S[i]? := by
  rw [List.getElem?_append_left (by simpa using h), List.getElem?_set_ne (Ne.symm hi)]
theorem len_mv {S : Ms} {j : Nat} {v w : MO} : (S.set j v ++ [w]).length = S.length + 1 := by simp
theorem lisX_app {S : Ms} {ds : List D} {j : Nat} {w : MO} (hs : lisX S j = some ds) (h : j < S.length) : lisX (S ++ [w]) j = some ds := by
  unfold lisX at hs ⊢
  rw [List.getElem?_append_left h]
  exact hs
theorem lisX_lt {S : Ms} {ds : List D} {j : Nat} (hs : lisX S j = some ds) : j < S.length := by
  unfold lisX at hs
  cases e : S[j]? with
  | none => rw [e] at hs; cases hs
  | some mo => exact (List.getElem?_eq_some_iff.mp e).1
theorem lisX_of {S : Ms} {ds : List D} {j : Nat} (h : S[j]? = some (MO.mx false ds)) : lisX S j = some ds := by
  unfold lisX
  rw [h]
theorem h_step {M S : Ms} {E : DEnds} {lists : Bool} {as ds : List D} {t j : Nat} {g : List Int} (hp : M <+: S) (hj : M.length ≤ j) (hs : lisX S j = some ds) (hl : ds.length = 7) (ht : t < 7) (ha : atI as (t : Int) = some (.lst (zl g)))
    (hN : ∀ (S' : Ms) (j' : Nat) (x : D), M <+: S' → S.length ≤ j' → S'[j']? = some (MO.mx false (ds.set t x)) → Hd lists S' S.length g x → (∀ i, i ≠ j → i < S.length → S'[i]? = S[i]?) →
      E.nx [some (.lst as), some (.bl lists), some (.cell j'), some (.int (t : Nat))] S') :
    hBody E [some (.lst as), some (.bl lists), some (.cell j), some (.int (t : Nat))] S := by
  have hjl : j < S.length := lisX_lt hs
  have ix : ∀ (S : Ms) (k : DK) (kx : DX), fIx (.lst as) (.int (t : Nat)) S k kx = k (.lst (zl g)) S := fun S k kx => e_ix rfl ha
  have cl : ∀ (S : Ms) (k : DK), cListM [.lst (zl g)] S k = k (.cell S.length) (S ++ [MO.ml (zl g)]) := fun S k => rfl
  have m1 := mv_S (x := .cell S.length) (lisX_app (w := MO.ml (zl g)) hs hjl) hl ht
  obtain ⟨S1, hS1⟩ : ∃ S1, S1 = (S ++ [MO.ml (zl g)]).set j MO.dead ++ [MO.mx false (ds.set t (.cell S.length))] := ⟨_, rfl⟩
  have lA : (S ++ [MO.ml (zl g)]).length = S.length + 1 := by simp
  have p1 : M <+: S1 := by
    rw [hS1]
    exact pre_app (pre_set (pre_app hp) hj)
  have l1 : S1.length = S.length + 2 := by
    rw [hS1, len_mv, lA]
  have a1 : S1[S.length + 1]? = some (MO.mx false (ds.set t (.cell S.length))) := by
    rw [hS1, ← lA]
    exact at_last
  have b1 : S1[S.length]? = some (MO.ml (zl g)) := by
    rw [hS1, at_old (by omega) (by omega)]
    simp
  have c1 : ∀ i, i ≠ j → i < S.length → S1[i]? = S[i]? := fun i hi hlt => by
    rw [hS1, at_old hi (by omega), List.getElem?_append_left hlt]
  rw [← hS1] at m1
  simp only [hBody, e_dSeq, e_dSubS, e_dCB, e_dCons, e_dNil, e_dBin, e_dIf, e_dNot, e_dTr]
  simp [ix, cl, m1, lA]
  cases lists with
  | true =>
    simp
    exact hN S1 (S.length + 1) (.cell S.length) p1 (by omega) a1 (by unfold Hd; rw [if_pos rfl]; exact ⟨_, rfl, Nat.le_refl _, b1⟩) c1
  | false =>
    have m2 := mv_S (x := .tup (zl g)) (lisX_of a1) (show (ds.set t (.cell S.length)).length = 7 by rw [List.length_set]; exact hl) ht
    rw [List.set_set] at m2
    simp [ix, tup_zl, m2]
    refine hN _ S1.length (.tup (zl g)) (pre_app (pre_set p1 (by have := hp.length_le; omega))) (by omega) at_last (by unfold Hd; rw [if_neg (by decide)]) fun i hi hlt => ?_
    rw [at_old (by omega) (by omega)]
    exact c1 i hi hlt

end Tk48

namespace Tk48
open PySem PySem.Spec PyProof.Rows L2 DL
/-! k48: rows handed over, called, changed -/
def Hd3 (lists : Bool) (S : Ms) (L : Nat) (a : Ar) (x0 x4 x5 : D) : Prop :=
  if lists = true then ∃ i0 i4 i5, x0 = .cell i0 ∧ x4 = .cell i4 ∧ x5 = .cell i5 ∧ L ≤ i0 ∧ i0 < i4 ∧ i4 < i5 ∧ S[i0]? = some (MO.ml (zl a.g)) ∧ S[i4]? = some (MO.ml (zl a.h)) ∧ S[i5]? = some (MO.ml (zl a.c))
  else x0 = .tup (zl a.g) ∧ x4 = .tup (zl a.h) ∧ x5 = .tup (zl a.c)
abbrev rwL (a : Ar) (x0 x4 x5 : D) : List D := [x0, .int a.l, oi a.m, .int a.p, x4, x5, .bl a.y]
theorem lt_of_at {S : Ms} {i : Nat} {v : MO} (h : S[i]? = some v) : i < S.length := (List.getElem?_eq_some_iff.mp h).1
theorem handed_ok {M : Ms} {k : DK} {kx : DX} {a : Ar} {lists : Bool} (hk : ∀ (S : Ms) (j : Nat) (x0 x4 x5 : D), M <+: S → M.length ≤ j → S[j]? = some (MO.mx false (rwL a x0 x4 x5)) → Hd3 lists S M.length a x0 x4 x5 → k (.cell j) S) :
    dn__law_handed [.lst a.ds, .bl lists] M k kx := by
  have cl : ∀ k : DK, cListM [.lst a.ds] M k = k (.cell M.length) (M ++ [MO.ml a.ds]) := fun k => rfl
  simp only [dn__law_handed, bd__law_handed]
  simp [-bd__law_handed_1, cl]
  simp only [bd__law_handed_1]
  simp only [e_dSeq, e_dFor]
  simp [-bd__law_handed_2, -e_dSubS, -e_dSeq, -e_dIf]
  refine ⟨by decide, ?_⟩
  have h0 : lisX (M ++ [MO.ml a.ds]) M.length = some a.ds := by
    unfold lisX
    simp
  simp only [forD]
  refine ⟨trivial, ?_⟩
  refine h_step (t := 0) (g := a.g) (M := M) ⟨_, rfl⟩ (Nat.le_refl _) h0 rfl (by decide) rfl fun S1 j1 x0 p1 q1 e1 d1 c1 => ?_
  refine ⟨trivial, ?_⟩
  have lM : (M ++ [MO.ml a.ds]).length = M.length + 1 := by simp
  refine h_step (t := 4) (g := a.h) p1 (by omega) (lisX_of e1) (by simp) (by decide) rfl fun S2 j2 x4 p2 q2 e2 d2 c2 => ?_
  refine ⟨trivial, ?_⟩
  refine h_step (t := 5) (g := a.c) p2 (by have := lt_of_at e1; omega) (lisX_of e2) (by simp) (by decide) rfl fun S3 j3 x5 p3 q3 e3 d3 c3 => ?_
  refine ⟨trivial, ?_⟩
  simp
  have := lt_of_at e1
  have := lt_of_at e2
  refine hk S3 j3 x0 x4 x5 p3 (by omega) (by rw [e3]; rfl) ?_
  unfold Hd at d1 d2 d3
  unfold Hd3
  cases lists with
  | false =>
    rw [if_neg (by decide)] at d1 d2 d3 ⊢
    exact ⟨d1, d2, d3⟩
  | true =>
    rw [if_pos rfl] at d1 d2 d3 ⊢
    obtain ⟨i0, rfl, g0, f0⟩ := d1
    obtain ⟨i4, rfl, g4, f4⟩ := d2
    obtain ⟨i5, rfl, g5, f5⟩ := d3
    have k0 := lt_of_at f0
    have k4 := lt_of_at f4
    have n0 : i0 ≠ j1 := fun z => by rw [z, e1] at f0; cases f0
    have n4 : i4 ≠ j2 := fun z => by rw [z, e2] at f4; cases f4
    have n02 : i0 ≠ j2 := by omega
    refine ⟨i0, i4, i5, rfl, rfl, rfl, by omega, by omega, by omega, ?_, ?_, f5⟩
    · rw [c3 i0 n02 (by omega), c2 i0 n0 k0]
      exact f0
    · rw [c3 i4 n4 k4]
      exact f4
theorem Hd3.sq {lists : Bool} {S : Ms} {L : Nat} {a : Ar} {x0 x4 x5 : D} (h : Hd3 lists S L a x0 x4 x5) : Sq S x0 a.g ∧ Sq S x4 a.h ∧ Sq S x5 a.c := by
  unfold Hd3 at h
  cases lists with
  | false =>
    rw [if_neg (by decide)] at h
    obtain ⟨rfl, rfl, rfl⟩ := h
    exact ⟨Or.inr (Or.inl rfl), Or.inr (Or.inl rfl), Or.inr (Or.inl rfl)⟩
  | true =>
    rw [if_pos rfl] at h
    obtain ⟨i0, i4, i5, rfl, rfl, rfl, _, _, _, f0, f4, f5⟩ := h
    exact ⟨Or.inr (Or.inr ⟨_, rfl, f0⟩), Or.inr (Or.inr ⟨_, rfl, f4⟩), Or.inr (Or.inr ⟨_, rfl, f5⟩)⟩
/-- two rows handed over are the same -/
theorem same_rows {M : Ms} {k : DK} {kx : DX} {a : Ar} {lists : Bool} {i j L L' : Nat} {x0 x4 x5 y0 y4 y5 : D} (la : a.g.length ≤ 20 ∧ a.h.length ≤ 20 ∧ a.c.length ≤ 20) (hi : M[i]? = some (MO.mx false (rwL a x0 x4 x5))) (hj : M[j]? = some (MO.mx false (rwL a y0 y4 y5)))
    (h : Hd3 lists M L a x0 x4 x5) (h' : Hd3 lists M L' a y0 y4 y5) (hk : k (.bl true) M) : dn__law_same 4 [.cell i, .cell j] M k kx := by
  have nt : ∀ l : List Int, l.length ≤ 20 → nice 3 (.tup (zl l)) := fun l hl => ⟨by rw [List.length_map]; unfold big; omega, fun x hx => by
    obtain ⟨z, _, rfl⟩ := List.mem_map.mp hx
    trivial⟩
  have three : ∀ (k : DK) (kx : DX), k (.bl true) M → dn__law_same 3 [x0, y0] M k kx ∧ dn__law_same 3 [x4, y4] M k kx ∧ dn__law_same 3 [x5, y5] M k kx := fun k kx hk => by
    unfold Hd3 at h h'
    cases lists with
    | false =>
      rw [if_neg (by decide)] at h h'
      obtain ⟨rfl, rfl, rfl⟩ := h
      obtain ⟨rfl, rfl, rfl⟩ := h'
      exact ⟨same_ok 3 _ _ _ _ (nt _ la.1) hk, same_ok 3 _ _ _ _ (nt _ la.2.1) hk, same_ok 3 _ _ _ _ (nt _ la.2.2) hk⟩
    | true =>
      rw [if_pos rfl] at h h'
      obtain ⟨i0, i4, i5, rfl, rfl, rfl, _, _, _, f0, f4, f5⟩ := h
      obtain ⟨j0, j4, j5, rfl, rfl, rfl, _, _, _, g0, g4, g5⟩ := h'
      exact ⟨same_int la.1 f0 g0 hk, same_int la.2.1 f4 g4 hk, same_int la.2.2 f5 g5 hk⟩
  refine same_ll (fu := 3) (ty_mx hi) (ty_mx hj) (seqX_mx hi) (seqX_mx hj) rfl (by show 7 ≤ 100000; decide) (fun t x y e1 e2 k kx hk => ?_) hk
  have ht : t < 7 := (List.getElem?_eq_some_iff.mp e1).1
  have T := three k kx hk
  have c7 : t = 0 ∨ t = 1 ∨ t = 2 ∨ t = 3 ∨ t = 4 ∨ t = 5 ∨ t = 6 := by omega
  rcases c7 with rfl | rfl | rfl | rfl | rfl | rfl | rfl
  · cases e1; cases e2; exact T.1
  · cases e1; cases e2; exact same_ok 3 _ _ _ _ trivial hk
  · cases e1; cases e2; exact same_ok 3 _ _ _ _ (by cases a.m <;> trivial) hk
  · cases e1; cases e2; exact same_ok 3 _ _ _ _ trivial hk
  · cases e1; cases e2; exact T.2.1
  · cases e1; cases e2; exact T.2.2
  · cases e1; cases e2; exact same_ok 3 _ _ _ _ trivial hk
theorem base_ok {M : Ms} {k : DK} {kx : DX} {d x0 x4 x5 : D} {a : Ar} {w : Nat} {x : Str} (hw : w ≤ 9) (hs : seqX M d = some (rwL a x0 x4 x5)) (h0 : Sq M x0 a.g) (h4 : Sq M x4 a.h) (h5 : Sq M x5 a.c) (hx : wr (fe a w) = some x) (hk : k (.bl true) M) : dn__law_by_base [d, .int (w : Nat)] M k kx := by
  simp only [dn__law_by_base, bd__law_by_base]
  simp [-bd__law_by_base_1]
  simp only [bd__law_by_base_1]
  simp [-bd__law_by_base_2]
  refine called_ok hw hs h0 h4 h5 ?_
  rw [hx]
  simp [-bd__law_by_base_2]
  refine ⟨by decide, ?_⟩
  simp only [bd__law_by_base_2]
  simp [fEqD, toPyM, toPy, toPyL, PyData.eqv, PyData.eqvAll]
  exact ⟨by decide, by decide +kernel, hk⟩
/-- a row changed -/
theorem ap_step {S : Ms} {E : DEnds} {G : Gm} {i j t : Nat} {ds : List D} {g : List Int} {x : Nat} (h7 : G[7]? = some (some (.cell j))) (h14 : G[14]? = some (some (.int (t : Nat)))) (h4 : G[4]? = some (some (.int (x : Nat)))) (hj : S[j]? = some (MO.mx false ds)) (ha : atI ds (t : Int) = some (.cell i)) (hi : S[i]? = some (MO.ml (zl g))) (hl : g.length ≤ 20)
    (hN : E.nx G (S.set i (MO.ml (zl (g ++ [(x : Int)]).reverse)))) :
    (dSeq (dExp (dApp (dBin fIx (dVar 7) (dVar 14)) (dVar 4))) (dExp (dRevIn (dBin fIx (dVar 7) (dVar 14))))) E G S := by
  have nij : i ≠ j := fun z => by rw [z, hj] at hi; cases hi
  have il := lt_of_at hi
  have hj2 : ∀ v, (S.set i v)[j]? = some (MO.mx false ds) := fun v => by rw [List.getElem?_set_ne nij]; exact hj
  have ap : appD S (.cell i) (.int (x : Nat)) = some (S.set i (MO.ml (zl (g ++ [(x : Int)])))) := by
    unfold appD
    have hb : (zl g).length < big := by
      rw [List.length_map]
      unfold big
      omega
    have e : zl g ++ [D.int (x : Nat)] = zl (g ++ [(x : Int)]) := by simp [zl]
    simp only [hi]
    rw [if_pos ⟨rfl, hb⟩, e]
  have lc : isLC S (.cell i) = true := by
    unfold isLC
    simp only [hi]
  have hr : (zl (g ++ [(x : Int)])).reverse = zl (g ++ [(x : Int)]).reverse := by
    unfold zl
    rw [List.map_reverse]
  have at2 : (S.set i (MO.ml (zl (g ++ [(x : Int)]))))[i]? = some (MO.ml (zl (g ++ [(x : Int)]))) := List.getElem?_set_self il
  simp only [e_dSeq, e_dExp, e_dApp, e_dBin, e_dVar, h7, h14, h4, e_dRevIn]
  rw [e_ixX (seqX_mx hj) ha]
  refine ⟨lc, ?_⟩
  simp only [ap]
  rw [e_ixX (seqX_mx (hj2 _)) ha]
  simp only [at2, List.set_set, hr]
  exact hN
theorem right_ok {M : Ms} {k : DK} {kx : DX} {G H C : List Int} {l m p : Int} {y : Bool} {part x : Nat} (hp : part ≤ 6) (hx : x ≤ 5) (gG : good G) (gH : good H) (gC : good C) (uG : up G = G) (uH : up H = H) (uC : up C = C) (hl : 1 ≤ l ∧ l ≤ 12) (hm : l ≤ m ∧ m ≤ 12) (hq : 0 ≤ p ∧ p ≤ 9) (hk : k (.bl true) M) :
    dn__law_equal_right [Pd G l m p H C y, .tup (tdL G l m p H C y), .int (part : Nat), .int (x : Nat)] M k kx := by
  have x0 : ∀ (M : Ms) (k : DK) (kx : DX), fIx (.tup (tdL G l m p H C y)) (.int 0) M k kx = k (.tup (zl G)) M := fun M k kx => e_ix rfl rfl
  have x1 : ∀ (M : Ms) (k : DK) (kx : DX), fIx (.tup (tdL G l m p H C y)) (.int 1) M k kx = k (.int l) M := fun M k kx => e_ix rfl rfl
  have x2 : ∀ (M : Ms) (k : DK) (kx : DX), fIx (.tup (tdL G l m p H C y)) (.int 2) M k kx = k (.int m) M := fun M k kx => e_ix rfl rfl
  have x3 : ∀ (M : Ms) (k : DK) (kx : DX), fIx (.tup (tdL G l m p H C y)) (.int 3) M k kx = k (.int p) M := fun M k kx => e_ix rfl rfl
  have x4 : ∀ (M : Ms) (k : DK) (kx : DX), fIx (.tup (tdL G l m p H C y)) (.int 4) M k kx = k (.tup (zl H)) M := fun M k kx => e_ix rfl rfl
  have x5 : ∀ (M : Ms) (k : DK) (kx : DX), fIx (.tup (tdL G l m p H C y)) (.int 5) M k kx = k (.tup (zl C)) M := fun M k kx => e_ix rfl rfl
  have x6 : ∀ (M : Ms) (k : DK) (kx : DX), fIx (.tup (tdL G l m p H C y)) (.int 6) M k kx = k (.bl y) M := fun M k kx => e_ix rfl rfl
  have tG : ∀ M, Sq M (.tup (zl G)) G := fun M => Or.inr (Or.inl rfl)
  have tH : ∀ M, Sq M (.tup (zl H)) H := fun M => Or.inr (Or.inl rfl)
  have tC : ∀ M, Sq M (.tup (zl C)) C := fun M => Or.inr (Or.inl rfl)
  have fe0 : ∀ a : Ar, fe a 0 = a := fun a => by simp [fe, fw]
  have sd : ∀ X : List Int, up X = X → sortI (down X) = X := fun X h => by rw [sort_good.mpr (good_down X), up_down, h]
  simp only [dn__law_equal_right, bd__law_equal_right]
  simp [-bd__law_equal_right_1, x0, x1, x2, x3, x4, x5, x6]
  refine down_ok (tG _) ?_
  try simp [-bd__law_equal_right_1, x0, x1, x2, x3, x4, x5, x6]
  refine down_ok (tH _) ?_
  try simp [-bd__law_equal_right_1, x0, x1, x2, x3, x4, x5, x6]
  refine down_ok (tC _) ?_
  try simp [-bd__law_equal_right_1, x0, x1, x2, x3, x4, x5, x6]
  refine ⟨by decide, ?_⟩
  refine called_ok (w := 0) (a := ⟨down G, l, some m, p, down H, down C, y⟩) (by decide) rfl (Or.inl rfl) (Or.inl rfl) (Or.inl rfl) ?_
  rw [fe0, wr_none (a := ⟨down G, l, some m, p, down H, down C, y⟩) (good_down G) hl hm hq (good_down H) (good_down C)]
  simp only [phD, sd G uG, sd H uH, sd C uC]
  simp only [bd__law_equal_right_1]
  simp [-bd__law_equal_right_2]
  refine other_ok hp hx gG gH gC hl hm hq fun a z0 z4 z5 s0 s4 s5 hw hne => ?_
  try simp [-bd__law_equal_right_2]
  refine called_ok (w := 0) (a := a) (by decide) rfl (s0 _) (s4 _) (s5 _) ?_
  rw [fe0, hw]
  simp [-bd__law_equal_right_2, phD]
  simp only [bd__law_equal_right_2]
  simp [-bd__law_equal_right_3, -e_fOr]
  refine eqO_ok ?_
  simp [-bd__law_equal_right_3, -e_fOr]
  refine eqO_ok ?_
  simp [-bd__law_equal_right_3, -e_fOr]
  simp only [bd__law_equal_right_3]
  simp [-e_fOr]
  have n1 : decide (G = sortI a.g ∧ l = a.l ∧ m = a.m.getD a.l ∧ p = a.p ∧ H = sortI a.h ∧ C = sortI a.c ∧ y = a.y) = false := decide_eq_false hne
  have n2 : decide (sortI a.g = G ∧ a.l = l ∧ a.m.getD a.l = m ∧ a.p = p ∧ sortI a.h = H ∧ sortI a.c = C ∧ a.y = y) = false := decide_eq_false fun z => hne ⟨z.1.symm, z.2.1.symm, z.2.2.1.symm, z.2.2.2.1.symm, z.2.2.2.2.1.symm, z.2.2.2.2.2.1.symm, z.2.2.2.2.2.2.symm⟩
  refine eqO_ok ?_
  rw [n1]
  simp [-e_fOr]
  refine eqO_ok ?_
  rw [n2]
  simpa using hk

end Tk48

namespace Tk48
open PySem PySem.Spec PyProof.Rows L2 DL
/-! k48: the law -/
theorem pre_at {S T : Ms} {i : Nat} {v : MO} (h : S <+: T) (e : S[i]? = some v) : T[i]? = some v := by
  obtain ⟨N, rfl⟩ := h
  rw [List.getElem?_append_left (lt_of_at e)]
  exact e
theorem take_pre {M S : Ms} (h : M <+: S) : S.take M.length = M := (List.prefix_iff_eq_take.mp h).symm
theorem Hd3.mono {lists : Bool} {S T : Ms} {L : Nat} {a : Ar} {x0 x4 x5 : D} (p : S <+: T) (h : Hd3 lists S L a x0 x4 x5) : Hd3 lists T L a x0 x4 x5 := by
  unfold Hd3 at h ⊢
  cases lists with
  | false =>
    rw [if_neg (by decide)] at h ⊢
    exact h
  | true =>
    rw [if_pos rfl] at h ⊢
    obtain ⟨i0, i4, i5, rfl, rfl, rfl, h1, h2, h3, f0, f4, f5⟩ := h
    exact ⟨i0, i4, i5, rfl, rfl, rfl, h1, h2, h3, pre_at p f0, pre_at p f4, pre_at p f5⟩
theorem nice_td {g h c : List Int} {l m p : Int} {y : Bool} (h1 : g.length ≤ 20) (h2 : h.length ≤ 20) (h3 : c.length ≤ 20) : nice 4 (.tup (tdL g l m p h c y)) := by
  have n : ∀ l : List Int, l.length ≤ 20 → nice 3 (.tup (zl l)) := fun l hl => ⟨by rw [List.length_map]; unfold big; omega, fun x hx => by
    obtain ⟨z, _, rfl⟩ := List.mem_map.mp hx
    trivial⟩
  refine ⟨by show 7 ≤ 100000; decide, fun x hx => ?_⟩
  simp only [List.mem_cons, List.not_mem_nil, or_false] at hx
  rcases hx with rfl | rfl | rfl | rfl | rfl | rfl | rfl
  · exact n _ h1
  · trivial
  · trivial
  · trivial
  · exact n _ h2
  · exact n _ h3
  · trivial
theorem asked_ok {M : Ms} {k : DK} {kx : DX} {a : Ar} {w part x : Nat} {lists : Bool} (la : a.g.length ≤ 20 ∧ a.h.length ≤ 20 ∧ a.c.length ≤ 20) (hw : w ≤ 9) (hp : part ≤ 6) (hx : x ≤ 5) (hk : k (.bl true) M) :
    dn__law_asked [.lst a.ds, .int (w : Nat), .bl lists, .int (part : Nat), .int (x : Nat)] M k kx := by
  simp only [dn__law_asked, bd__law_asked]
  simp [-bd__law_asked_1]
  refine filled_ok ?_
  simp only [bd__law_asked_1]
  simp [-bd__law_asked_2]
  refine wrong_ok (d := .lst (filL a w)) (a := fe a w) rfl (Or.inl rfl) sq_ok sq_ok ?_
  have A : ∀ wd : D, ((∃ s, wr (fe a w) = some s ∧ wd = .str s) ∨ (wr (fe a w) = none ∧ wd = .non)) → Bd__law_asked_2 ⟨fun _ M' => k .non (M'.take M.length), outK M.length k, fun _ _ => False, fun _ _ => False, fun x _ M' => kx x (M'.take M.length)⟩
      [some (.lst a.ds), some (.int (w : Nat)), some (.bl lists), some (.int (part : Nat)), some (.int (x : Nat)), some (.lst (filL a w)), some wd, none, none, none, none, none, none, none, none] M := by
    intro wd hwd
    simp only [bd__law_asked_2]
    simp [-bd__law_asked_3]
    refine handed_ok fun S j x0 x4 x5 pS jS eS hd => ?_
    have tS := take_pre pS
    have T7 : ∀ (v8 v9 v10 v11 : Option D), (∀ S2, S <+: S2 → Bd__law_asked_8 ⟨fun _ M' => k .non (M'.take M.length), outK M.length k, fun _ _ => False, fun _ _ => False, fun x _ M' => kx x (M'.take M.length)⟩ [some (.lst a.ds), some (.int (w : Nat)), some (.bl lists), some (.int (part : Nat)), some (.int (x : Nat)), some (.lst (filL a w)), some wd, some (.cell j), v8, v9, v10, v11, none, none, none] S2) → Bd__law_asked_7 ⟨fun _ M' => k .non (M'.take M.length), outK M.length k, fun _ _ => False, fun _ _ => False, fun x _ M' => kx x (M'.take M.length)⟩ [some (.lst a.ds), some (.int (w : Nat)), some (.bl lists), some (.int (part : Nat)), some (.int (x : Nat)), some (.lst (filL a w)), some wd, some (.cell j), v8, v9, v10, v11, none, none, none] S := by
      intro v8 v9 v10 v11 h8
      simp only [bd__law_asked_7]
      simp [-bd__law_asked_8]
      refine handed_ok fun S2 j2 y0 y4 y5 p2 j2' e2 hd2 => ?_
      refine same_rows la (pre_at p2 eS) e2 (hd.mono p2) hd2 ?_
      have := h8 S2 p2
      simpa [-bd__law_asked_8] using this
    simp only [bd__law_asked_3]
    simp [-bd__law_asked_4]
    simp only [bd__law_asked_4]
    simp [-bd__law_asked_5]
    simp only [bd__law_asked_5]
    simp [-bd__law_asked_6]
    simp only [bd__law_asked_6]
    simp [-bd__law_asked_7]
    obtain ⟨q0, q4, q5⟩ := hd.sq
    refine called_ok hw (seqX_mx eS) q0 q4 q5 ?_
    rcases hwd with ⟨s, hs, rfl⟩ | ⟨hs, rfl⟩
    · rw [hs]
      simp [-bd__law_asked_7]
      refine T7 _ _ _ _ fun S2 p2 => ?_
      have hd2 := (hd.mono p2).sq
      simp only [bd__law_asked_8]
      simp [-bd__law_asked_9]
      refine same_ok 4 _ _ _ _ trivial ?_
      simp
      refine base_ok hw (seqX_mx (pre_at p2 eS)) hd2.1 hd2.2.1 hd2.2.2 hs ?_
      simp [take_pre (pS.trans p2)]
      exact hk
    · rw [hs]
      simp [-bd__law_asked_7]
      refine T7 _ _ _ _ fun S2 p2 => ?_
      obtain ⟨b, hb⟩ : ∃ b, b = fe a w := ⟨_, rfl⟩
      rw [← hb] at hs ⊢
      obtain ⟨w1, w2, w3, w4, w5, w6⟩ := wr_inv hs
      obtain ⟨u, hu⟩ : ∃ u, u = b.m.getD b.l := ⟨_, rfl⟩
      have ef : filL a w = [.lst (zl b.g), .int b.l, oi b.m, .int b.p, sqD (fw w 4) b.h, sqD (fw w 5) b.c, .bl b.y] := by rw [hb]; rfl
      have i0 : ∀ (M : Ms) (k : DK) (kx : DX), fIx (.lst (filL a w)) (.int 0) M k kx = k (.lst (zl b.g)) M := fun M k kx => e_ix rfl (by rw [ef]; rfl)
      have i1 : ∀ (M : Ms) (k : DK) (kx : DX), fIx (.lst (filL a w)) (.int 1) M k kx = k (.int b.l) M := fun M k kx => e_ix rfl (by rw [ef]; rfl)
      have i2 : ∀ (M : Ms) (k : DK) (kx : DX), fIx (.lst (filL a w)) (.int 2) M k kx = k (oi b.m) M := fun M k kx => e_ix rfl (by rw [ef]; rfl)
      have i3 : ∀ (M : Ms) (k : DK) (kx : DX), fIx (.lst (filL a w)) (.int 3) M k kx = k (.int b.p) M := fun M k kx => e_ix rfl (by rw [ef]; rfl)
      have i4 : ∀ (M : Ms) (k : DK) (kx : DX), fIx (.lst (filL a w)) (.int 4) M k kx = k (sqD (fw w 4) b.h) M := fun M k kx => e_ix rfl (by rw [ef]; rfl)
      have i5 : ∀ (M : Ms) (k : DK) (kx : DX), fIx (.lst (filL a w)) (.int 5) M k kx = k (sqD (fw w 5) b.c) M := fun M k kx => e_ix rfl (by rw [ef]; rfl)
      have i6 : ∀ (M : Ms) (k : DK) (kx : DX), fIx (.lst (filL a w)) (.int 6) M k kx = k (.bl b.y) M := fun M k kx => e_ix rfl (by rw [ef]; rfl)
      have ep : phD b = Pd (up b.g) b.l u b.p (up b.h) (up b.c) b.y := by
        unfold phD
        rw [sort_good.mpr w1, sort_good.mpr w5, sort_good.mpr w6, hu]
      rw [ep]
      have T15 : ∀ (S3 : Ms) (v14 : Option D), M <+: S3 → Bd__law_asked_15 ⟨fun _ M' => k .non (M'.take M.length), outK M.length k, fun _ _ => False, fun _ _ => False, fun x _ M' => kx x (M'.take M.length)⟩ [some (.lst a.ds), some (.int (w : Nat)), some (.bl lists), some (.int (part : Nat)), some (.int (x : Nat)), some (.lst (filL a w)), some .non, some (.cell j), some (.bl false), some .non, some (Pd (up b.g) b.l u b.p (up b.h) (up b.c) b.y), none, some (.int u), some (.tup (tdL (up b.g) b.l u b.p (up b.h) (up b.c) b.y)), v14] S3 := by
        intro S3 v14 p3
        simp only [bd__law_asked_15]
        simp
        refine told_ok ?_
        refine same_ok 4 _ _ _ _ (nice_td (by have := up_len b.g; omega) (by have := up_len b.h; omega) (by have := up_len b.c; omega)) ?_
        simp
        refine right_ok hp hx (good_up _) (good_up _) (good_up _) up_up up_up up_up w2 (hu ▸ w3) w4 ?_
        simp [take_pre p3]
        exact hk
      have T12 : Bd__law_asked_12 ⟨fun _ M' => k .non (M'.take M.length), outK M.length k, fun _ _ => False, fun _ _ => False, fun x _ M' => kx x (M'.take M.length)⟩ [some (.lst a.ds), some (.int (w : Nat)), some (.bl lists), some (.int (part : Nat)), some (.int (x : Nat)), some (.lst (filL a w)), some .non, some (.cell j), some (.bl false), some .non, some (Pd (up b.g) b.l u b.p (up b.h) (up b.c) b.y), none, some (.int u), none, none] S2 := by
        simp only [bd__law_asked_12]
        simp [-bd__law_asked_13, i0, i1, i2, i3, i4, i5, i6]
        refine up_ok (Or.inl rfl) ?_
        try simp [-bd__law_asked_13, i0, i1, i2, i3, i4, i5, i6]
        refine up_ok sq_ok ?_
        try simp [-bd__law_asked_13, i0, i1, i2, i3, i4, i5, i6]
        refine up_ok sq_ok ?_
        try simp [-bd__law_asked_13, i0, i1, i2, i3, i4, i5, i6]
        refine ⟨by decide, ?_⟩
        simp only [bd__law_asked_13]
        simp [-bd__law_asked_14]
        refine told_ok ?_
        refine same_ok 4 _ _ _ _ (nice_td (by have := up_len b.g; omega) (by have := up_len b.h; omega) (by have := up_len b.c; omega)) ?_
        simp [-bd__law_asked_14]
        simp only [bd__law_asked_14]
        cases hl : lists with
        | false =>
          rw [hl] at T15
          simp [-bd__law_asked_15]
          exact T15 S2 none (pS.trans p2)
        | true =>
          have hd2 := hd.mono p2
          unfold Hd3 at hd2
          rw [if_pos hl] at hd2
          obtain ⟨n0, n4, n5, rfl, rfl, rfl, m0, m4, m5, f0, f4, f5⟩ := hd2
          have ej := pre_at p2 eS
          rw [hl] at T15
          simp only [e_dSeq, e_dIf]
          simp [-bd__law_asked_15, -e_dSeq]
          refine ⟨by decide, ?_⟩
          have z0 : n0 ≠ j := fun z => by rw [z, ej] at f0; cases f0
          have z4 : n4 ≠ j := fun z => by rw [z, ej] at f4; cases f4
          simp only [forD]
          refine ⟨trivial, ?_⟩
          refine ap_step (t := 0) (i := n0) (j := j) (g := a.g) (x := x) rfl rfl rfl ej rfl f0 la.1 ?_
          refine ⟨trivial, ?_⟩
          refine ap_step (t := 4) (i := n4) (j := j) (g := a.h) (x := x) rfl rfl rfl (by rw [List.getElem?_set_ne z0]; exact ej) rfl (by rw [List.getElem?_set_ne (by omega)]; exact f4) la.2.1 ?_
          refine ⟨trivial, ?_⟩
          refine ap_step (t := 5) (i := n5) (j := j) (g := a.c) (x := x) rfl rfl rfl (by rw [List.getElem?_set_ne z4, List.getElem?_set_ne z0]; exact ej) rfl (by rw [List.getElem?_set_ne (by omega), List.getElem?_set_ne (by omega)]; exact f5) la.2.2 ?_
          refine ⟨trivial, ?_⟩
          exact T15 _ _ (pre_set (pre_set (pre_set (pS.trans p2) m0) (by omega)) (by omega))
      simp only [bd__law_asked_8]
      simp [-bd__law_asked_9]
      simp only [bd__law_asked_9]
      simp [-bd__law_asked_10]
      simp only [bd__law_asked_10]
      simp [-bd__law_asked_11, i2]
      simp only [bd__law_asked_11]
      cases em : b.m with
      | none =>
        rw [em] at hu
        simp [-bd__law_asked_12, oi, i1]
        subst hu
        exact T12
      | some v =>
        rw [em] at hu
        simp [-bd__law_asked_12, oi, i1]
        subst hu
        exact T12
  cases hwr : wr (fe a w) with
  | some s => exact A _ (Or.inl ⟨s, hwr, rfl⟩)
  | none => exact A _ (Or.inr ⟨hwr, rfl⟩)
theorem mend_len {a : Ar} : (mend a).g.length ≤ 20 ∧ (mend a).h.length ≤ 20 ∧ (mend a).c.length ≤ 20 := ⟨by have := down_len a.g; show (down a.g).length ≤ 20; omega, by have := down_len a.h; show (down a.h).length ≤ 20; omega, by have := down_len a.c; show (down a.c).length ≤ 20; omega⟩
theorem law_ok2 : LawD dn_law := by
  intro ns hn
  simp only [dn_law, bd_law]
  try simp [-bd_law_1]
  refine args_ok fun a l0 l4 l5 => ?_
  simp only [bd_law_1]
  try simp [-bd_law_2]
  refine hand_ok (i := 4) fun h1 hh1 => ?_
  simp only [bd_law_2]
  try simp [-bd_law_3]
  refine take_ok (by rfl) hh1 (by decide) (by decide) fun w h2 w0 w1 hh2 => ?_
  simp only [bd_law_3]
  try simp [-bd_law_4]
  refine take_ok (by rfl) hh2 (by decide) (by decide) fun z h3 z0 z1 hh3 => ?_
  try simp [-bd_law_4]
  simp only [bd_law_4]
  try simp [-bd_law_5]
  refine take_ok (by rfl) hh3 (by decide) (by decide) fun part h4 p0 p1 hh4 => ?_
  simp only [bd_law_5]
  try simp [-bd_law_6]
  refine take_ok (by rfl) hh4 (by decide) (by decide) fun x h5 x0 x1 hh5 => ?_
  obtain ⟨w, rfl⟩ := Int.eq_ofNat_of_zero_le w0
  obtain ⟨part, rfl⟩ := Int.eq_ofNat_of_zero_le p0
  obtain ⟨x, rfl⟩ := Int.eq_ofNat_of_zero_le x0
  have hm : ∀ {M : Ms} {k : DK} {kx : DX} {w : Nat} {b : Ar}, (b.g.length ≤ 20 ∧ b.h.length ≤ 20 ∧ b.c.length ≤ 20) → w ≤ 9 → k (.bl true) M → dn__law_asked [.lst b.ds, .int (w : Nat), .bl (decide (0 < z)), .int (part : Nat), .int (x : Nat)] M k kx := fun hb hw hk => asked_ok hb hw (by omega) (by omega) hk
  simp only [bd_law_6]
  try simp [-bd_law_7]
  refine hm ⟨l0, l4, l5⟩ (by omega) ?_
  try simp [-bd_law_7]
  simp only [bd_law_7]
  try simp [-bd_law_8]
  refine mended_ok ?_
  try simp [-bd_law_8]
  refine hm (w := 0) mend_len (by decide) ?_
  try simp [-bd_law_8]
  simp only [bd_law_8]
  simp
  refine hm ⟨l0, l4, l5⟩ (by omega) ?_
  simp

end Tk48

theorem PySem.Challenge.cw_crossinglights_k48_phase_kept_holds : PySem.Challenge.rw_crossinglights_k48_phase_kept.Holds := by
  exact Tk48.head Tk48.law_ok2
