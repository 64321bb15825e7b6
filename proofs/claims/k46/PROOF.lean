import PyProof.Rows.All
import Wide.All
import OpenK.AllK
import Wide.FinOn
import HandS.ForMost
import HandS.ForExc
import HandS.WideBits
import HandS.Deep
import HandS.Conv
import HandS.TupAny
import HandS.IsInst
import HandS.NoneIn
import KE.SortData
import KE.DataMinMax
import KE.DatumOrd
import HandS.SortKw
import KE.BitLaws
import HandS.Zip
import HandS.Style
import HandS.TupLe
import HandS.Dict
import HandS.NamedTupSort
import PySem.Challenge.RW_bagreach_k46_hitting_there_and_back
set_option Elab.async false
set_option linter.all false
/-! DL0: the flow of draws, first form: [a0, a1, great, a3, cells]. -/
namespace DL
open PySem PySem.Spec PyProof.Rows L2
/-- fl: the flow's list; g: the great cells to come; c: the cells -/
def FlowOk (fl g c : Addr) (H : Hp) : Prop := ∃ (a0 a1 a3 : Int) (gs cs : List Int), cs ≠ [] ∧ H fl = some (.lst [.int a0, .int a1, .ref g, .int a3, .ref c]) ∧ H g = some (.lst (gs.map V.int)) ∧ H c = some (.lst (cs.map V.int)) ∧ fl ≠ g ∧ fl ≠ c ∧ g ≠ c
theorem FlowOk.there {fl g c : Addr} {H : Hp} (h : FlowOk fl g c H) : H fl ≠ none ∧ H g ≠ none ∧ H c ≠ none := by
  obtain ⟨_, _, _, _, _, _, h1, h2, h3, _⟩ := h
  rw [h1, h2, h3]
  exact ⟨fun z => (by cases z), fun z => (by cases z), fun z => (by cases z)⟩
theorem FlowOk.loc {fl g c : Addr} {H H' : Hp} (h : FlowOk fl g c H) (e1 : H' fl = H fl) (e2 : H' g = H g) (e3 : H' c = H c) : FlowOk fl g c H' := by
  obtain ⟨a0, a1, a3, gs, cs, h0, h1, h2, h3, h4⟩ := h
  exact ⟨a0, a1, a3, gs, cs, h0, e1.trans h1, e2.trans h2, e3.trans h3, h4⟩
theorem FlowOk.lsts {fl g c : Addr} {H : Hp} (h : FlowOk fl g c H) : (∃ xs, H fl = some (.lst xs)) ∧ (∃ xs, H g = some (.lst xs)) ∧ ∃ xs, H c = some (.lst xs) := by
  obtain ⟨_, _, _, _, _, _, h1, h2, h3, _⟩ := h
  exact ⟨⟨_, h1⟩, ⟨_, h2⟩, ⟨_, h3⟩⟩
end DL

set_option Elab.async false
set_option linter.all false
set_option maxRecDepth 100000
/-! Dq: plain data, as Dp of the hand layer, but a tuple is a tracked one, and a dict that stands still is data, too -/
namespace L2
open PySem PySem.Spec PyProof.Rows
def keyD : Key → PyData
  | .inl i => .int i
  | .inr x => .str x
mutual
inductive Dq (K : PySem.W.Frag) (H : Hp) : V → PyData → Prop
  | non : Dq K H .non .none
  | bl (b : Bool) : Dq K H (.bl b) (.bool b)
  | int (i : Int) : Dq K H (.int i) (.int i)
  | str (x : Str) : Dq K H (.str x) (.str x)
  | lst {a : Addr} {xs : List V} {ds : List PyData} : SqL K H a xs → DqAll K H xs ds → Dq K H (.ref a) (.list ds)
  | tup {a : Addr} {xs : List V} {ds : List PyData} : H a = some (.tup xs) → DqAll K H xs ds → Dq K H (.ref a) (.tuple ds)
  | dkk {a : Addr} {o : Obj} {xs : List (Key × V)} {kvs : List (PyData × PyData)} : H a = some (.frz o (.dK xs)) → DqK K H xs kvs → Dq K H (.ref a) (.dict kvs)
  | dkt {a : Addr} {o : Obj} {xs : List (List Key × V)} {kvs : List (PyData × PyData)} : H a = some (.frz o (.dT xs)) → DqT K H xs kvs → Dq K H (.ref a) (.dict kvs)
inductive DqAll (K : PySem.W.Frag) (H : Hp) : List V → List PyData → Prop
  | nil : DqAll K H [] []
  | cons {v : V} {vs : List V} {d : PyData} {ds : List PyData} : Dq K H v d → DqAll K H vs ds → DqAll K H (v :: vs) (d :: ds)
inductive DqK (K : PySem.W.Frag) (H : Hp) : List (Key × V) → List (PyData × PyData) → Prop
  | nil : DqK K H [] []
  | cons {k : Key} {v : V} {xs : List (Key × V)} {d : PyData} {kvs : List (PyData × PyData)} : Dq K H v d → DqK K H xs kvs → DqK K H ((k, v) :: xs) ((keyD k, d) :: kvs)
inductive DqT (K : PySem.W.Frag) (H : Hp) : List (List Key × V) → List (PyData × PyData) → Prop
  | nil : DqT K H [] []
  | cons {k : List Key} {v : V} {xs : List (List Key × V)} {d : PyData} {kvs : List (PyData × PyData)} : Dq K H v d → DqT K H xs kvs → DqT K H ((k, v) :: xs) ((.tuple (k.map keyD), d) :: kvs)
end
mutual
def noD : PyData → Bool
  | .list ds => noDs ds
  | .tuple ds => noDs ds
  | .dict _ => false
  | _ => true
def noDs : List PyData → Bool
  | [] => true
  | d :: ds => noD d && noDs ds
end
mutual
theorem Dq.dp {K : PySem.W.Frag} {H : Hp} : ∀ {v : V} {d : PyData}, Dq K H v d → noD d = true → Dp K H v d
  | _, _, .non, _ => .non
  | _, _, .bl _, _ => .bl _
  | _, _, .int _, _ => .int _
  | _, _, .str _, _ => .str _
  | _, _, .lst h1 h2, n => .lst h1 (h2.dp (by simpa [noD] using n))
  | _, _, .tup h1 h2, n => .tup (.inl (.inl h1)) (h2.dp (by simpa [noD] using n))
  | _, _, .dkk _ _, n => by simp [noD] at n
  | _, _, .dkt _ _, n => by simp [noD] at n
theorem DqAll.dp {K : PySem.W.Frag} {H : Hp} : ∀ {vs : List V} {ds : List PyData}, DqAll K H vs ds → noDs ds = true → DpAll K H vs ds
  | _, _, .nil, _ => .nil
  | _, _, .cons (d := d) (ds := ds) h1 h2, n => by
    have n' : noD d = true ∧ noDs ds = true := by simpa [noDs] using n
    exact .cons (h1.dp n'.1) (h2.dp n'.2)
end
/-- data that == and in may look at -/
def shp (d : PyData) : Bool := SeqAt.shaped d && noD d
theorem shp_sh {d : PyData} (h : shp d = true) : SeqAt.shaped d = true := (Bool.and_eq_true_iff.mp h).1
theorem shp_no {d : PyData} (h : shp d = true) : noD d = true := (Bool.and_eq_true_iff.mp h).2
end L2
/-! DL: a layer of plain data over the hand layer. A def's body is read as a program over data (PyData), without heaps. -/
namespace DL
open PySem PySem.Spec PyProof.Rows L2

abbrev D := PyData
/-- what an expression hands on, what a slot holds: data that stands still; a list of this def's own; that list, only looked at; the draws' flow -/
inductive S where
  | dat (d : D)
  | own (ds : List D)
  | bor (ds : List D)
  | tok
  | dct (t : Bool) (kvs : List (D × D))
def S.fz : S → S
  | .own ds => .dat (.list ds)
  | s => s
def S.d : S → D
  | .dat d => d
  | .own ds => .list ds
  | .bor ds => .list ds
  | .tok => .none
  | .dct _ kvs => .dict kvs

/-- of the def's own, may change -/
def S.mt : S → Bool
  | .own _ => true
  | .dct _ _ => true
  | _ => false
abbrev DEnv := List (Option S)
abbrev Xn := Str → List (Str × D) → Prop
def x0 : Xn := fun _ _ => False

/-- a region that changes behind our back (the flow of draws), if there is one -/
structure Rg where
  on : Bool
  fl : Addr
  g : Addr
  c : Addr
def Rg.has (Z : Rg) (b : Addr) : Prop := Z.on = true ∧ (b = Z.fl ∨ b = Z.g ∨ b = Z.c)
def Rg.ok (Z : Rg) (H : Hp) : Prop := Z.on = true → FlowOk Z.fl Z.g Z.c H
theorem Rg.there (Z : Rg) {H : Hp} (h : Z.ok H) : ∀ b, Z.has b → H b ≠ none := by
  rintro b ⟨hz, e⟩
  obtain ⟨h1, h2, h3⟩ := (h hz).there
  rcases e with rfl | rfl | rfl
  · exact h1
  · exact h2
  · exact h3
theorem Rg.lst (Z : Rg) {H : Hp} (h : Z.ok H) : ∀ b, Z.has b → ∃ xs, H b = some (.lst xs) := by
  rintro b ⟨hz, e⟩
  obtain ⟨h1, h2, h3⟩ := (h hz).lsts
  rcases e with rfl | rfl | rfl
  · exact h1
  · exact h2
  · exact h3
theorem Rg.loc (Z : Rg) {H H' : Hp} (h : Z.ok H) (e : ∀ b, Z.has b → H' b = H b) : Z.ok H' := fun hz =>
  (h hz).loc (e _ ⟨hz, .inl rfl⟩) (e _ ⟨hz, .inr (.inl rfl)⟩) (e _ ⟨hz, .inr (.inr rfl)⟩)

structure Ok (Z : Rg) (G H : Hp) : Prop where
  s : ∀ b u, G b = some u → H b = some u
  z : Z.ok H
  d : ∀ b, Z.has b → G b = none

structure Ext (Z : Rg) (G H G' H' : Hp) : Prop where
  g : ∀ b u, G b = some u → G' b = some u
  h : ∀ b u, ¬ Z.has b → H b = some u → H' b = some u
  n : ∀ b, G' b ≠ none → G b ≠ none ∨ H b = none ∨ ¬ Z.has b ∧ ∃ xs, H b = some (.tup xs)
  t : ∀ b, H b ≠ none → H' b ≠ none

theorem Ext.refl {Z : Rg} {G H : Hp} : Ext Z G H G H := ⟨fun _ _ e => e, fun _ _ _ e => e, fun _ e => .inl e, fun _ e => e⟩
theorem Ext.trans {Z : Rg} {G H G1 H1 G2 H2 : Hp} (a : Ext Z G H G1 H1) (b : Ext Z G1 H1 G2 H2) : Ext Z G H G2 H2 where
  g := fun c u e => b.g c u (a.g c u e)
  h := fun c u z e => b.h c u z (a.h c u z e)
  n := fun c e => by
    rcases b.n c e with q | q | ⟨hz, xs, q⟩
    · exact a.n c q
    · refine .inr (.inl ?_)
      cases r : H c with
      | none => rfl
      | some u => exact absurd q (a.t c (by rw [r]; intro z; cases z))
    · cases r : H c with
      | none => exact .inr (.inl rfl)
      | some u =>
        have h1 := a.h c u hz r
        rw [q] at h1
        cases h1
        exact .inr (.inr ⟨hz, xs, rfl⟩)
  t := fun c e => b.t c (a.t c e)

theorem sqL_mono {K : PySem.W.Frag} {G G' : Hp} {a : Addr} {xs : List V} (e : ∀ b u, G b = some u → G' b = some u) (h : SqL K G a xs) : SqL K G' a xs := by
  rcases h with (h | ⟨o, h⟩) | h
  · exact .inl (.inl (e _ _ h))
  · exact .inl (.inr ⟨o, e _ _ h⟩)
  · exact .inr h
theorem sqT_mono {K : PySem.W.Frag} {G G' : Hp} {a : Addr} {xs : List V} (e : ∀ b u, G b = some u → G' b = some u) (h : SqT K G a xs) : SqT K G' a xs := by
  rcases h with (h | ⟨o, h⟩) | h
  · exact .inl (.inl (e _ _ h))
  · exact .inl (.inr ⟨o, e _ _ h⟩)
  · exact .inr h
mutual
theorem dp_mono {K : PySem.W.Frag} {G G' : Hp} (e : ∀ b u, G b = some u → G' b = some u) : ∀ (d : D) (v : V), Dq K G v d → Dq K G' v d
  | _, _, .non => .non
  | _, _, .bl _ => .bl _
  | _, _, .int _ => .int _
  | _, _, .str _ => .str _
  | _, _, .lst h1 h2 => .lst (sqL_mono e h1) (dpAll_mono e _ _ h2)
  | _, _, .tup h1 h2 => .tup (e _ _ h1) (dpAll_mono e _ _ h2)
  | _, _, .dkk h1 h2 => .dkk (e _ _ h1) (dqK_mono e _ _ h2)
  | _, _, .dkt h1 h2 => .dkt (e _ _ h1) (dqT_mono e _ _ h2)
theorem dpAll_mono {K : PySem.W.Frag} {G G' : Hp} (e : ∀ b u, G b = some u → G' b = some u) : ∀ (ds : List D) (vs : List V), DqAll K G vs ds → DqAll K G' vs ds
  | _, _, .nil => .nil
  | _, _, .cons h1 h2 => .cons (dp_mono e _ _ h1) (dpAll_mono e _ _ h2)
theorem dqK_mono {K : PySem.W.Frag} {G G' : Hp} (e : ∀ b u, G b = some u → G' b = some u) : ∀ (ds : List (D × D)) (vs : List (Key × V)), DqK K G vs ds → DqK K G' vs ds
  | _, _, .nil => .nil
  | _, _, .cons h1 h2 => .cons (dp_mono e _ _ h1) (dqK_mono e _ _ h2)
theorem dqT_mono {K : PySem.W.Frag} {G G' : Hp} (e : ∀ b u, G b = some u → G' b = some u) : ∀ (ds : List (D × D)) (vs : List (List Key × V)), DqT K G vs ds → DqT K G' vs ds
  | _, _, .nil => .nil
  | _, _, .cons h1 h2 => .cons (dp_mono e _ _ h1) (dqT_mono e _ _ h2)
end
end DL
namespace L2
open PySem PySem.Spec PyProof.Rows
section
variable {K : PySem.W.Frag} {G : Hp}
theorem DqAll.length : ∀ {vs : List V} {ds : List PyData}, DqAll K G vs ds → vs.length = ds.length
  | _, _, .nil => rfl
  | _, _, .cons _ t => congrArg (· + 1) (DqAll.length t)
theorem DqAll.append : ∀ {vs ws : List V} {ds es : List PyData}, DqAll K G vs ds → DqAll K G ws es → DqAll K G (vs ++ ws) (ds ++ es)
  | _, _, _, _, .nil, h => h
  | _, _, _, _, .cons a t, h => .cons a (DqAll.append t h)
theorem DqAll.get : ∀ {vs : List V} {ds : List PyData} {i : Nat} {d : PyData}, DqAll K G vs ds → ds[i]? = some d → ∃ v, vs[i]? = some v ∧ Dq K G v d
  | _, _, _, _, .nil, e => by simp at e
  | _, _, 0, _, .cons a _, e => by simp at e; subst e; exact ⟨_, rfl, a⟩
  | _, _, i + 1, _, .cons _ t, e => by
    obtain ⟨v, h1, h2⟩ := DqAll.get (i := i) t (by simpa using e)
    exact ⟨v, by simpa using h1, h2⟩
theorem DqAll.getV : ∀ {vs : List V} {ds : List PyData} {i : Nat} {v : V}, DqAll K G vs ds → vs[i]? = some v → ∃ d, ds[i]? = some d ∧ Dq K G v d
  | _, _, _, _, .nil, e => by simp at e
  | _, _, 0, _, .cons a _, e => by simp at e; subst e; exact ⟨_, rfl, a⟩
  | _, _, i + 1, _, .cons _ t, e => by
    obtain ⟨v, h1, h2⟩ := DqAll.getV (i := i) t (by simpa using e)
    exact ⟨v, by simpa using h1, h2⟩
theorem DqAll.drop : ∀ {vs : List V} {ds : List PyData} (n : Nat), DqAll K G vs ds → DqAll K G (vs.drop n) (ds.drop n)
  | _, _, 0, h => h
  | _, _, _ + 1, .nil => .nil
  | _, _, n + 1, .cons _ t => DqAll.drop n t
theorem DqAll.take : ∀ {vs : List V} {ds : List PyData} (n : Nat), DqAll K G vs ds → DqAll K G (vs.take n) (ds.take n)
  | _, _, 0, _ => .nil
  | _, _, _ + 1, .nil => .nil
  | _, _, n + 1, .cons a t => .cons a (DqAll.take n t)
theorem DqAll.ints : ∀ {ns : List Int} {vs : List V}, DqAll K G vs (ns.map PyData.int) → vs = ns.map V.int
  | [], _, h => by cases h; rfl
  | n :: ns, _, h => by
    cases h with
    | cons h1 h2 =>
      cases h1
      rw [DqAll.ints h2]; rfl
theorem DqAll.ints_of : ∀ (ns : List Int), DqAll K G (ns.map V.int) (ns.map PyData.int)
  | [] => .nil
  | n :: ns => .cons (.int n) (DqAll.ints_of ns)
end

end L2
namespace DL
open PySem PySem.Spec PyProof.Rows L2
/-- a dict that may change: what stands at its address -/
def DctOf (K : PySem.W.Frag) (G : Hp) (t : Bool) (u : HO) (kvs : List (D × D)) : Prop :=
  if t = true then ∃ xs, u = .dT xs ∧ DqT K G xs kvs else ∃ xs, u = .dK xs ∧ DqK K G xs kvs
theorem DctOf.mono {K : PySem.W.Frag} {G G' : Hp} {t : Bool} {u : HO} {kvs : List (D × D)} (e : ∀ b w, G b = some w → G' b = some w) (h : DctOf K G t u kvs) : DctOf K G' t u kvs := by
  unfold DctOf at h ⊢
  split at h
  · rename_i ht
    obtain ⟨xs, h1, h2⟩ := h
    rw [if_pos ht]
    exact ⟨xs, h1, dqT_mono e _ _ h2⟩
  · rename_i ht
    obtain ⟨xs, h1, h2⟩ := h
    rw [if_neg ht]
    exact ⟨xs, h1, dqK_mono e _ _ h2⟩
theorem DctOf.noLst {K : PySem.W.Frag} {G : Hp} {t : Bool} {kvs : List (D × D)} {xs : List V} (h : DctOf K G t (.lst xs) kvs) : False := by
  unfold DctOf at h
  split at h
  · obtain ⟨_, h, _⟩ := h; cases h
  · obtain ⟨_, h, _⟩ := h; cases h
theorem DctOf.noTup {K : PySem.W.Frag} {G : Hp} {t : Bool} {kvs : List (D × D)} {xs : List V} (h : DctOf K G t (.tup xs) kvs) : False := by
  unfold DctOf at h
  split at h
  · obtain ⟨_, h, _⟩ := h; cases h
  · obtain ⟨_, h, _⟩ := h; cases h
/-- v stands for s -/
def SV (Z : Rg) (K : PySem.W.Frag) (G H : Hp) (v : V) : S → Prop
  | .dat d => Dq K G v d
  | .own ds => ∃ l xs, v = .ref l ∧ H l = some (.lst xs) ∧ DqAll K G xs ds ∧ G l = none ∧ ¬ Z.has l
  | .bor ds => ∃ l xs, v = .ref l ∧ H l = some (.lst xs) ∧ DqAll K G xs ds ∧ G l = none ∧ ¬ Z.has l
  | .tok => v = .ref Z.fl ∧ Z.on = true
  | .dct t kvs => ∃ l u, v = .ref l ∧ H l = some u ∧ DctOf K G t u kvs ∧ G l = none ∧ ¬ Z.has l
theorem SV.mono {Z : Rg} {K : PySem.W.Frag} {G H G' H' : Hp} {v : V} {s : S} (e : Ext Z G H G' H') (h : SV Z K G H v s) : SV Z K G' H' v s := by
  have key : ∀ ds, (∃ l xs, v = .ref l ∧ H l = some (.lst xs) ∧ DqAll K G xs ds ∧ G l = none ∧ ¬ Z.has l) → ∃ l xs, v = .ref l ∧ H' l = some (.lst xs) ∧ DqAll K G' xs ds ∧ G' l = none ∧ ¬ Z.has l := by
    rintro ds ⟨l, xs, e1, h1, h2, h3, h4⟩
    refine ⟨l, xs, e1, e.h l _ h4 h1, dpAll_mono e.g ds xs h2, ?_, h4⟩
    cases r : G' l with
    | none => rfl
    | some u =>
      rcases e.n l (by rw [r]; intro z; cases z) with q | q | ⟨_, ys, q⟩
      · exact absurd h3 q
      · rw [h1] at q; cases q
      · rw [h1] at q; cases q
  cases s with
  | dat d => exact dp_mono e.g d v h
  | own ds => exact key ds h
  | bor ds => exact key ds h
  | tok => exact h
  | dct t kvs =>
    obtain ⟨l, u, e1, h1, h2, h3, h4⟩ := h
    refine ⟨l, u, e1, e.h l _ h4 h1, h2.mono e.g, ?_, h4⟩
    cases r : G' l with
    | none => rfl
    | some w =>
      rcases e.n l (by rw [r]; intro z; cases z) with q | q | ⟨_, ys, q⟩
      · exact absurd h3 q
      · rw [h1] at q; cases q
      · rw [h1] at q; cases q; exact h2.noTup.elim
/-- read in the heap as data -/
theorem SV.dpH {Z : Rg} {K : PySem.W.Frag} {G H : Hp} {v : V} {s : S} (o : Ok Z G H) (h : SV Z K G H v s) (ht : s ≠ .tok) (hd : ∀ t kvs, s ≠ .dct t kvs) : Dq K H v s.d := by
  cases s with
  | dat d => exact dp_mono o.s d v h
  | own ds =>
    obtain ⟨l, xs, rfl, h1, h2, _⟩ := h
    exact .lst (SqL.of h1) (dpAll_mono o.s ds xs h2)
  | bor ds =>
    obtain ⟨l, xs, rfl, h1, h2, _⟩ := h
    exact .lst (SqL.of h1) (dpAll_mono o.s ds xs h2)
  | tok => exact absurd rfl ht
  | dct t kvs => exact absurd rfl (hd t kvs)
theorem SV.dpN {Z : Rg} {K : PySem.W.Frag} {G H : Hp} {v : V} {s : S} (o : Ok Z G H) (h : SV Z K G H v s) (ht : s ≠ .tok) (hn : shp s.d = true) : Dp K H v s.d :=
  (h.dpH o ht (by rintro t kvs rfl; have q := shp_no hn; simp [S.d, noD] at q)).dp (shp_no hn)
/-- its items -/
theorem SV.list {Z : Rg} {K : PySem.W.Frag} {G H : Hp} {v : V} {s : S} {ds : List D} (o : Ok Z G H) (h : SV Z K G H v s) (e : s.d = .list ds) : ∃ a xs, v = .ref a ∧ SqL K H a xs ∧ DqAll K G xs ds := by
  cases s with
  | dat d =>
    have e' : d = .list ds := e
    subst e'
    have h' : Dq K G v (.list ds) := h
    cases h' with
    | lst h1 h2 => exact ⟨_, _, rfl, sqL_mono o.s h1, h2⟩
  | own es =>
    have e' : es = ds := by injection (show PyData.list es = .list ds from e)
    subst e'
    obtain ⟨l, xs, rfl, h1, h2, _⟩ := h
    exact ⟨l, xs, rfl, SqL.of h1, h2⟩
  | bor es =>
    have e' : es = ds := by injection (show PyData.list es = .list ds from e)
    subst e'
    obtain ⟨l, xs, rfl, h1, h2, _⟩ := h
    exact ⟨l, xs, rfl, SqL.of h1, h2⟩
  | tok => cases (show PyData.none = .list ds from e)
  | dct t kvs => cases (show PyData.dict kvs = .list ds from e)
theorem SV.tupG {Z : Rg} {K : PySem.W.Frag} {G H : Hp} {v : V} {s : S} {ds : List D} (o : Ok Z G H) (h : SV Z K G H v s) (e : s.d = .tuple ds) : ∃ a xs, v = .ref a ∧ G a = some (.tup xs) ∧ DqAll K G xs ds := by
  cases s with
  | dat d =>
    have e' : d = .tuple ds := e
    subst e'
    have h' : Dq K G v (.tuple ds) := h
    cases h' with
    | tup h1 h2 => exact ⟨_, _, rfl, h1, h2⟩
  | own es => cases (show PyData.list es = .tuple ds from e)
  | bor es => cases (show PyData.list es = .tuple ds from e)
  | tok => cases (show PyData.none = .tuple ds from e)
  | dct t kvs => cases (show PyData.dict kvs = .tuple ds from e)
theorem SV.tup {Z : Rg} {K : PySem.W.Frag} {G H : Hp} {v : V} {s : S} {ds : List D} (o : Ok Z G H) (h : SV Z K G H v s) (e : s.d = .tuple ds) : ∃ a xs, v = .ref a ∧ SqT K G a xs ∧ DqAll K G xs ds := by
  obtain ⟨a, xs, e1, e2, e3⟩ := h.tupG o e
  exact ⟨a, xs, e1, .inl (.inl e2), e3⟩
theorem SV.int {Z : Rg} {K : PySem.W.Frag} {G H : Hp} {v : V} {i : Int} (h : SV Z K G H v (.dat (.int i))) : v = .int i := by
  have h' : Dq K G v (.int i) := h
  cases h'; rfl
theorem SV.bl {Z : Rg} {K : PySem.W.Frag} {G H : Hp} {v : V} {i : Bool} (h : SV Z K G H v (.dat (.bool i))) : v = .bl i := by
  have h' : Dq K G v (.bool i) := h
  cases h'; rfl
theorem SV.str {Z : Rg} {K : PySem.W.Frag} {G H : Hp} {v : V} {i : Str} (h : SV Z K G H v (.dat (.str i))) : v = .str i := by
  have h' : Dq K G v (.str i) := h
  cases h'; rfl

/-- a value has come: v for s, between (G, H) and (G', H') -/
structure Got (Z : Rg) (K : PySem.W.Frag) (G H G' H' : Hp) (v : V) (s : S) : Prop where
  ext : Ext Z G H G' H'
  ok : Ok Z G' H'
  sv : SV Z K G' H' v s
  nw : ∀ ds, s = .own ds → ∀ l, v = .ref l → H l = none
  nd : ∀ t kvs, s = .dct t kvs → ∀ l, v = .ref l → H l = none := by exact fun _ _ e => by cases e
section
variable {Z : Rg} {K : PySem.W.Frag} {G H G1 H1 G' H' : Hp} {v : V} {s : S}
theorem Got.after (e : Ext Z G H G1 H1) (g : Got Z K G1 H1 G' H' v s) : Got Z K G H G' H' v s :=
  ⟨e.trans g.ext, g.ok, g.sv, fun ds e1 l e2 => by
    cases r : H l with
    | none => rfl
    | some u => exact absurd (g.nw ds e1 l e2) (e.t l (by rw [r]; intro z; cases z)), fun t ks e1 l e2 => by
    cases r : H l with
    | none => rfl
    | some u => exact absurd (g.nd t ks e1 l e2) (e.t l (by rw [r]; intro z; cases z))⟩
theorem Got.here {d : D} (o : Ok Z G H) (h : Dq K G v d) : Got Z K G H G H v (.dat d) := ⟨.refl, o, h, fun _ e => (by cases e), fun _ _ e => (by cases e)⟩
theorem Ok.new {p : Addr} {u : HO} (o : Ok Z G H) (hp : H p = none) : Ok Z (upd G p u) (upd H p u) ∧ Ext Z G H (upd G p u) (upd H p u) := by
  have gp : G p = none := by
    cases r : G p with
    | none => rfl
    | some w => rw [o.s p w r] at hp; cases hp
  have zp : ¬ Z.has p := fun z => Z.there o.z p z hp
  have e : ∀ b w, G b = some w → (upd G p u) b = some w := fun b w e => by
    rw [upd_ne (ne_of_none e gp)]; exact e
  refine ⟨⟨fun b w e => ?_, Z.loc o.z fun b hb => ?_, fun b hb => ?_⟩, ⟨e, fun b w _ q => ?_, fun b q => ?_, fun b q => ?_⟩⟩
  · by_cases hb : b = p
    · subst hb; rw [upd_same] at e ⊢; exact e
    · rw [upd_ne hb] at e ⊢; exact o.s b w e
  · rw [upd_ne (fun z : b = p => zp (z ▸ hb))]
  · rw [upd_ne (fun z : b = p => zp (z ▸ hb))]; exact o.d b hb
  · rw [upd_ne (ne_of_none q hp)]; exact q
  · by_cases hb : b = p
    · subst hb; exact .inr (.inl hp)
    · rw [upd_ne hb] at q; exact .inl q
  · by_cases hb : b = p
    · subst hb; exact absurd hp q
    · rw [upd_ne hb]; exact q
theorem Ok.newH {p : Addr} {u : HO} (o : Ok Z G H) (hp : H p = none) : Ok Z G (upd H p u) ∧ Ext Z G H G (upd H p u) := by
  have gp : G p = none := by
    cases r : G p with
    | none => rfl
    | some w => rw [o.s p w r] at hp; cases hp
  have zp : ¬ Z.has p := fun z => Z.there o.z p z hp
  refine ⟨⟨fun b w e => ?_, Z.loc o.z fun b hb => ?_, o.d⟩, ⟨fun _ _ e => e, fun b w _ q => ?_, fun b q => .inl q, fun b q => ?_⟩⟩
  · rw [upd_ne (ne_of_none e gp)]; exact o.s b w e
  · rw [upd_ne (fun z : b = p => zp (z ▸ hb))]
  · rw [upd_ne (ne_of_none q hp)]; exact q
  · by_cases hb : b = p
    · subst hb; exact absurd hp q
    · rw [upd_ne hb]; exact q
theorem Got.newT {p : Addr} {xs : List V} {ds : List D} (o : Ok Z G H) (hp : H p = none) (h : DqAll K G xs ds) : Got Z K G H (upd G p (.tup xs)) (upd H p (.tup xs)) (.ref p) (.dat (.tuple ds)) := by
  obtain ⟨o', e'⟩ := o.new (u := .tup xs) hp
  exact ⟨e', o', Dq.tup upd_same (dpAll_mono e'.g ds xs h), fun _ e => (by cases e), fun _ _ e => (by cases e)⟩
theorem Got.newL {p : Addr} {xs : List V} {ds : List D} (o : Ok Z G H) (hp : H p = none) (h : DqAll K G xs ds) : Got Z K G H G (upd H p (.lst xs)) (.ref p) (.own ds) := by
  obtain ⟨o', e'⟩ := o.newH (u := .lst xs) hp
  have gp : G p = none := by
    cases r : G p with
    | none => rfl
    | some w => rw [o.s p w r] at hp; cases hp
  refine ⟨e', o', ⟨p, xs, rfl, upd_same, h, gp, fun z => Z.there o.z p z hp⟩, fun _ _ l e => ?_, fun _ _ e => by cases e⟩
  have e2 : p = l := by injection e
  rw [← e2]; exact hp
/-- an own list is laid still -/
theorem Got.fz (g : Got Z K G H G' H' v s) : ∃ G2, Got Z K G H G2 H' v s.fz ∧ (∀ b u, G' b = some u → G2 b = some u) := by
  cases s with
  | dat d => exact ⟨G', g, fun _ _ e => e⟩
  | bor d => exact ⟨G', g, fun _ _ e => e⟩
  | tok => exact ⟨G', g, fun _ _ e => e⟩
  | dct t kvs => exact ⟨G', g, fun _ _ e => e⟩
  | own ds =>
    obtain ⟨l, xs, rfl, h1, h2, h3, h4⟩ := g.sv
    have hl := g.nw ds rfl l rfl
    have e : ∀ b w, G' b = some w → (upd G' l (.lst xs)) b = some w := fun b w q => by
      rw [upd_ne (ne_of_none q h3)]; exact q
    refine ⟨upd G' l (.lst xs), ⟨⟨fun b u q => e b u (g.ext.g b u q), g.ext.h, fun b q => ?_, g.ext.t⟩, ⟨fun b w q => ?_, g.ok.z, fun b hb => ?_⟩, ?_, fun _ q => (by cases q), fun _ _ q => (by cases q)⟩, e⟩
    · by_cases hb : b = l
      · subst hb; exact .inr (.inl hl)
      · rw [upd_ne hb] at q; exact g.ext.n b q
    · by_cases hb : b = l
      · subst hb; rw [upd_same] at q; rw [h1]; exact q
      · rw [upd_ne hb] at q; exact g.ok.s b w q
    · rw [upd_ne (fun z : b = l => h4 (z ▸ hb))]; exact g.ok.d b hb
    · exact Dq.lst (SqL.of upd_same) (dpAll_mono e ds xs h2)
end
end DL

set_option Elab.async false
set_option linter.all false
set_option maxRecDepth 100000
/-! DL2: judgements and expressions. -/
namespace DL
open PySem PySem.Spec PyProof.Rows L2

def lk : DEnv → Nat → Option S
  | [], _ => none
  | x :: _, 0 => x
  | _ :: r, n + 1 => lk r n
def stv : DEnv → Nat → Option S → DEnv
  | [], _, _ => []
  | _ :: r, 0, x => x :: r
  | y :: r, n + 1, x => y :: stv r n x
theorem stv_len : ∀ (ρ : DEnv) (i : Nat) (x : Option S), (stv ρ i x).length = ρ.length
  | [], _, _ => rfl
  | _ :: _, 0, _ => rfl
  | _ :: r, n + 1, x => congrArg (· + 1) (stv_len r n x)
theorem lk_same : ∀ {ρ : DEnv} {i : Nat} {x : Option S} {s : S}, lk (stv ρ i x) i = some s → x = some s
  | [], _, _, _, h => by cases h
  | _ :: _, 0, _, _, h => h
  | _ :: r, n + 1, x, _, h => lk_same (ρ := r) (i := n) h
theorem lk_ne : ∀ {ρ : DEnv} {i j : Nat} {x : Option S}, i ≠ j → lk (stv ρ i x) j = lk ρ j
  | [], _, _, _, _ => rfl
  | _ :: _, 0, 0, _, h => absurd rfl h
  | _ :: _, 0, _ + 1, _, _ => rfl
  | _ :: _, _ + 1, 0, _, _ => rfl
  | _ :: r, n + 1, m + 1, x, h => lk_ne (ρ := r) (i := n) (j := m) (fun e => h (congrArg (· + 1) e))
theorem lk_lt : ∀ {ρ : DEnv} {i : Nat} {s : S}, lk ρ i = some s → i < ρ.length
  | [], _, _, h => by cases h
  | _ :: _, 0, _, _ => Nat.succ_pos _
  | _ :: r, n + 1, _, h => Nat.succ_lt_succ (lk_lt (ρ := r) (i := n) h)

def Slot (Z : Rg) (K : PySem.W.Frag) (G H H0 : Hp) (v : V) : S → Prop
  | .dat d => Dq K G v d
  | .own ds => ∃ l xs, v = .ref l ∧ H l = some (.lst xs) ∧ DqAll K G xs ds ∧ G l = none ∧ ¬ Z.has l ∧ H0 l = none
  | .bor _ => False
  | .tok => v = .ref Z.fl ∧ Z.on = true
  | .dct t kvs => ∃ l u, v = .ref l ∧ H l = some u ∧ DctOf K G t u kvs ∧ G l = none ∧ ¬ Z.has l ∧ H0 l = none
theorem Slot.mono {Z : Rg} {K : PySem.W.Frag} {G H H0 G' H' : Hp} {v : V} {s : S} (e : Ext Z G H G' H') (h : Slot Z K G H H0 v s) : Slot Z K G' H' H0 v s := by
  cases s with
  | dat d => exact dp_mono e.g d v h
  | own ds =>
    obtain ⟨l, xs, rfl, h1, h2, h3, h4, h5⟩ := h
    obtain ⟨l', xs', e1, q1, q2, q3, q4⟩ := SV.mono (s := .own ds) e ⟨l, xs, rfl, h1, h2, h3, h4⟩
    cases e1
    exact ⟨l, xs', rfl, q1, q2, q3, q4, h5⟩
  | bor ds => exact h
  | tok => exact h
  | dct t kvs =>
    obtain ⟨l, u, rfl, h1, h2, h3, h4, h5⟩ := h
    obtain ⟨l', u', e1, q1, q2, q3, q4⟩ := SV.mono (s := .dct t kvs) e ⟨l, u, rfl, h1, h2, h3, h4⟩
    cases e1
    exact ⟨l, u', rfl, q1, q2, q3, q4, h5⟩

structure SRel (Z : Rg) (K : PySem.W.Frag) (G0 H0 G H : Hp) (σ : L2.St) (ρ : DEnv) : Prop where
  ok : Ok Z G H
  ext : Ext Z G0 H0 G H
  sl : ∀ i s, lk ρ i = some s → ∃ v, σ[i]? = some (some v) ∧ Slot Z K G H H0 v s
  dis : ∀ i j s t v, s.mt = true → t.mt = true → lk ρ i = some s → lk ρ j = some t → σ[i]? = some (some v) → σ[j]? = some (some v) → i = j
  len : σ.length = ρ.length
section
variable {Z : Rg} {K : PySem.W.Frag} {G0 H0 G H G' H' : Hp} {σ : L2.St} {ρ : DEnv} {v : V} {s : S}
theorem SRel.mono (r : SRel Z K G0 H0 G H σ ρ) (e : Ext Z G H G' H') (o : Ok Z G' H') : SRel Z K G0 H0 G' H' σ ρ :=
  ⟨o, r.ext.trans e, fun i s h => let ⟨v, h1, h2⟩ := r.sl i s h; ⟨v, h1, h2.mono e⟩, r.dis, r.len⟩
theorem SRel.set {i : Nat} (r : SRel Z K G0 H0 G H σ ρ) (h : Slot Z K G H H0 v s)
    (hd : s.mt = true → ∀ j t, t.mt = true → lk ρ j = some t → σ[j]? ≠ some (some v)) : SRel Z K G0 H0 G H (σ.set i (some v)) (stv ρ i (some s)) := by
  refine ⟨r.ok, r.ext, fun j t e => ?_, fun j k ds es u m1 m2 e1 e2 e3 e4 => ?_, by rw [List.length_set, stv_len]; exact r.len⟩
  · by_cases hij : i = j
    · subst hij
      have hl := lk_lt e
      rw [stv_len, ← r.len] at hl
      have e' := lk_same e
      cases e'
      exact ⟨v, List.getElem?_set_self hl, h⟩
    · rw [lk_ne hij] at e
      rw [List.getElem?_set_ne hij]
      exact r.sl j t e
  · by_cases h1 : i = j
    · by_cases h2 : i = k
      · exact h1.symm.trans h2
      · subst h1
        have hl := lk_lt e1
        rw [stv_len, ← r.len] at hl
        rw [List.getElem?_set_self hl] at e3
        cases e3
        rw [lk_ne h2] at e2
        rw [List.getElem?_set_ne h2] at e4
        have q := lk_same e1
        cases q
        exact absurd e4 (hd m1 k es m2 e2)
    · by_cases h2 : i = k
      · subst h2
        have hl := lk_lt e2
        rw [stv_len, ← r.len] at hl
        rw [List.getElem?_set_self hl] at e4
        cases e4
        rw [lk_ne h1] at e1
        rw [List.getElem?_set_ne h1] at e3
        have q := lk_same e2
        cases q
        exact absurd e3 (hd m2 j ds m1 e1)
      · rw [lk_ne h1] at e1
        rw [lk_ne h2] at e2
        rw [List.getElem?_set_ne h1] at e3
        rw [List.getElem?_set_ne h2] at e4
        exact r.dis j k ds es u m1 m2 e1 e2 e3 e4
theorem SRel.unset (i : Nat) (r : SRel Z K G0 H0 G H σ ρ) : SRel Z K G0 H0 G H (σ.set i none) (stv ρ i none) := by
  refine ⟨r.ok, r.ext, fun j t e => ?_, fun j k ds es u m1 m2 e1 e2 e3 e4 => ?_, by rw [List.length_set, stv_len]; exact r.len⟩
  · by_cases hij : i = j
    · subst hij
      have e' := lk_same e
      cases e'
    · rw [lk_ne hij] at e
      rw [List.getElem?_set_ne hij]
      exact r.sl j t e
  · by_cases h1 : i = j
    · subst h1
      have e' := lk_same e1
      cases e'
    · by_cases h2 : i = k
      · subst h2
        have e' := lk_same e2
        cases e'
      · rw [lk_ne h1] at e1
        rw [lk_ne h2] at e2
        rw [List.getElem?_set_ne h1] at e3
        rw [List.getElem?_set_ne h2] at e4
        exact r.dis j k ds es u m1 m2 e1 e2 e3 e4
/-- a value that may change stands at an address -/
theorem Slot.mut (h : Slot Z K G H H0 v s) (m : s.mt = true) : ∃ l u, v = .ref l ∧ H l = some u := by
  cases s with
  | own ds => obtain ⟨l, xs, e, q, _⟩ := h; exact ⟨l, _, e, q⟩
  | dct t kvs => obtain ⟨l, xs, e, q, _⟩ := h; exact ⟨l, _, e, q⟩
  | dat d => cases m
  | bor d => cases m
  | tok => cases m
/-- a value that has come is put into a slot -/
theorem SRel.put {i : Nat} (r : SRel Z K G0 H0 G H σ ρ) (g : Got Z K G H G' H' v s) (hb : ∀ ds, s ≠ .bor ds) : SRel Z K G0 H0 G' H' (σ.set i (some v)) (stv ρ i (some s)) := by
  have r' := r.mono g.ext g.ok
  have nH : ∀ {l : Addr}, H l = none → H0 l = none := fun {l} hn => by
    cases q : H0 l with
    | none => rfl
    | some u => exact absurd hn (r.ext.t l (by rw [q]; intro z; cases z))
  refine r'.set ?_ fun ms j t mt e1 e2 => ?_
  · cases s with
    | dat d => exact g.sv
    | own ds =>
      obtain ⟨l, xs, rfl, h1, h2, h3, h4⟩ := g.sv
      exact ⟨l, xs, rfl, h1, h2, h3, h4, nH (g.nw ds rfl l rfl)⟩
    | bor ds => exact absurd rfl (hb ds)
    | tok => exact g.sv
    | dct t kvs =>
      obtain ⟨l, xs, rfl, h1, h2, h3, h4⟩ := g.sv
      exact ⟨l, xs, rfl, h1, h2, h3, h4, nH (g.nd t kvs rfl l rfl)⟩
  · obtain ⟨w, h1, sl⟩ := r.sl j _ e1
    obtain ⟨l, u, rfl, h2⟩ := sl.mut mt
    rw [h1] at e2
    have e3 : V.ref l = v := by injection e2 with z; injection z
    have hn : H l = none := by
      cases s with
      | own ds => exact g.nw ds rfl l e3.symm
      | dct t kvs => exact g.nd t kvs rfl l e3.symm
      | dat d => cases ms
      | bor d => cases ms
      | tok => cases ms
    rw [hn] at h2; cases h2
end

/-! ### judgements -/
abbrev DT := Xn → DEnv → (S → Prop) → Prop
abbrev DTA := Xn → DEnv → (List S → Prop) → Prop
abbrev DTT := Xn → DEnv → (Bool → Prop) → Prop

def XPay (K : PySem.W.Frag) (H : Hp) (d : Option Addr) (fs : List (Str × D)) : Prop :=
  (d = none ∧ fs = []) ∨ fs ≠ [] ∧ ∃ a vs, d = some a ∧ H a = some (.xd vs) ∧ Paired (fun (p : Str × V) (q : Str × D) => p.1 = q.1 ∧ Dq K H p.2 q.2) vs fs
def XOk (Z : Rg) (K : PySem.W.Frag) (mg : Str → Option Value) (G0 H0 : Hp) (W : WX) (x : Xn) : Prop :=
  ∀ nm fs C d σ' G' H', mg nm = some (.ref C) → x nm fs → Ext Z G0 H0 G' H' → Ok Z G' H' → XPay K H' d fs → W (.ref C) d σ' H'
theorem XOk.no {Z : Rg} {K : PySem.W.Frag} {mg : Str → Option Value} {G0 H0 : Hp} {W : WX} : XOk Z K mg G0 H0 W x0 := fun _ _ _ _ _ _ _ _ h => h.elim

def SVs (Z : Rg) (K : PySem.W.Frag) (G H : Hp) : List V → List S → Prop
  | [], [] => True
  | v :: vs, s :: ss => (SV Z K G H v s ∧ s.mt = false) ∧ SVs Z K G H vs ss
  | _, _ => False
theorem SVs.mono {Z : Rg} {K : PySem.W.Frag} {G H G' H' : Hp} (e : Ext Z G H G' H') : ∀ {vs : List V} {ss : List S}, SVs Z K G H vs ss → SVs Z K G' H' vs ss
  | [], [], _ => trivial
  | _ :: _, _ :: _, h => ⟨⟨h.1.1.mono e, h.1.2⟩, SVs.mono e h.2⟩
  | [], _ :: _, h => h.elim
  | _ :: _, [], h => h.elim

def Sem (K : PySem.W.Frag) (mg : Str → Option Value) (W : WX) (t : TE) (τ : DT) : Prop :=
  ∀ (Z : Rg) (G0 H0 : Hp) (x : Xn), XOk Z K mg G0 H0 W x → ∀ (σ : L2.St) (ρ : DEnv) (G H : Hp) (Q : VK) (Qd : S → Prop), SRel Z K G0 H0 G H σ ρ → τ x ρ Qd →
    (∀ s v G' H', Got Z K G H G' H' v s → Qd s → Q v H') → t σ H Q
def SemA (K : PySem.W.Frag) (mg : Str → Option Value) (W : WX) (t : TA) (τ : DTA) : Prop :=
  ∀ (Z : Rg) (G0 H0 : Hp) (x : Xn), XOk Z K mg G0 H0 W x → ∀ (σ : L2.St) (ρ : DEnv) (G H : Hp) (Q : List V → Hp → Prop) (Qd : List S → Prop), SRel Z K G0 H0 G H σ ρ → τ x ρ Qd →
    (∀ ss vs G' H', Ext Z G H G' H' → Ok Z G' H' → SVs Z K G' H' vs ss → Qd ss → Q vs H') → t σ H Q
def SemT (K : PySem.W.Frag) (mg : Str → Option Value) (W : WX) (t : TT) (τ : DTT) : Prop :=
  ∀ (Z : Rg) (G0 H0 : Hp) (x : Xn), XOk Z K mg G0 H0 W x → ∀ (σ : L2.St) (ρ : DEnv) (G H : Hp) (Q : Bool → Hp → Prop) (Qd : Bool → Prop), SRel Z K G0 H0 G H σ ρ → τ x ρ Qd →
    (∀ b G' H', Ext Z G H G' H' → Ok Z G' H' → Qd b → Q b H') → t σ H Q

structure DE (K : PySem.W.Frag) (mg : Str → Option Value) (W : WX) (X : Cx) (e : Expr) (t : TE) (τ : DT) : Prop where
  pe : PE X e t
  sem : Sem K mg W t τ
structure DA (K : PySem.W.Frag) (mg : Str → Option Value) (W : WX) (X : Cx) (es : List Expr) (t : TA) (τ : DTA) : Prop where
  pe : PA X es t
  sem : SemA K mg W t τ
structure DC (K : PySem.W.Frag) (mg : Str → Option Value) (W : WX) (X : Cx) (e : Expr) (t : TT) (τ : DTT) : Prop where
  pe : PT X e t
  sem : SemT K mg W t τ

/-! ### names, constants, displays -/
section
variable {K : PySem.W.Frag} {mg : Str → Option Value} {W : WX} {X : Cx} {pos : Pos}
def τVar (i : Nat) : DT := fun _ ρ Q => match lk ρ i with
  | some (.own ds) => Q (.bor ds)
  | some (.dct _ _) => False
  | some s => Q s
  | none => False
theorem sem_var {K : PySem.W.Frag} {mg : Str → Option Value} (i : Nat) : Sem K mg W (tVar i) (τVar i) := by
  intro Z G0 H0 x hx σ ρ G H Q Qd r h k
  unfold τVar at h
  split at h
  · rename_i ds e
    obtain ⟨v, h1, l, xs, rfl, h2, h3, h4, h5, _⟩ := r.sl i _ e
    exact ⟨_, h1, k (.bor ds) _ G H ⟨.refl, r.ok, ⟨l, xs, rfl, h2, h3, h4, h5⟩, fun _ e => (by cases e), fun _ _ e => (by cases e)⟩ h⟩
  · exact h.elim
  · rename_i s hs hd e
    obtain ⟨v, h1, h2⟩ := r.sl i _ e
    refine ⟨v, h1, k _ _ G H ⟨.refl, r.ok, ?_, fun ds z => ?_, fun _ _ e5 => ?_⟩ h⟩
    · cases s with
      | dat d => exact h2
      | own ds => exact absurd rfl (hs ds)
      | bor ds => exact h2.elim
      | tok => exact h2
      | dct t kvs => exact absurd rfl (hd t kvs)
    · exact absurd z (hs ds)
    · exact absurd e5 (hd _ _)
  · exact h.elim
theorem dv (i : Nat) {x : Str} (hN : X.N[i]? = some x := by rfl) (hv : Vis X.env.scope x := by first | exact Or.inl rfl | exact Or.inr (Or.inl rfl) | exact Or.inr (Or.inr rfl)) (hd : (x == ("__debug__" : Str)) = false := by decide)
    (hcd : (x == ("__classdict__" : Str)) = false := by decide) : DE K mg W X (.Name x pos) (tVar i) (τVar i) := ⟨pe_var hN hv hd hcd, sem_var i⟩
def τC (d : D) : DT := fun _ _ Q => Q (.dat d)
theorem sem_c {K : PySem.W.Frag} {mg : Str → Option Value} {v : V} {d : D} (h : ∀ G, Dq K G v d) : Sem K mg W (tC v) (τC d) :=
  fun _ _ _ _ _ _ _ G H _ _ r q k => k _ _ G H (.here r.ok (h G)) q
theorem de_int {i : Int} {j} : DE K mg W X (.Constant (.int i) j pos) (tC (.int i)) (τC (.int i)) := ⟨pe_int, sem_c fun _ => .int i⟩
theorem de_bl {b : Bool} {j} : DE K mg W X (.Constant (.bool b) j pos) (tC (.bl b)) (τC (.bool b)) := ⟨pe_bl, sem_c fun _ => .bl b⟩
theorem de_non {j} : DE K mg W X (.Constant .none j pos) (tC .non) (τC .none) := ⟨pe_non, sem_c fun _ => .non⟩
theorem de_str {x : Str} {j} : DE K mg W X (.Constant (.str x) j pos) (tC (.str x)) (τC (.str x)) := ⟨pe_str, sem_c fun _ => .str x⟩
/-- a module's constant int -/
theorem de_gint {x : Str} {i : Int} {t : Tok} (hg : Gl X x) (hm : X.mg x = some (.int i t)) (hd : (x == ("__debug__" : Str)) = false := by decide) : DE K mg W X (.Name x pos) (tC (.int i)) (τC (.int i)) :=
  ⟨pe_glob hg hm ⟨t, rfl⟩ hd, sem_c fun _ => .int i⟩

def τNil : DTA := fun _ _ Q => Q []
/-- what is handed on: a list of one's own is laid still, a dict of one's own is not handed on -/
def consQ : S → List S → (List S → Prop) → Prop
  | .dat d, ss, Q => Q (.dat d :: ss)
  | .own ds, ss, Q => Q (.dat (.list ds) :: ss)
  | .bor ds, ss, Q => Q (.bor ds :: ss)
  | .tok, ss, Q => Q (.tok :: ss)
  | .dct _ _, _, _ => False
theorem consQ_fz {s : S} {ss : List S} {Q : List S → Prop} (h : consQ s ss Q) : s.fz.mt = false ∧ Q (s.fz :: ss) := by
  cases s with
  | dat d => exact ⟨rfl, h⟩
  | own d => exact ⟨rfl, h⟩
  | bor d => exact ⟨rfl, h⟩
  | tok => exact ⟨rfl, h⟩
  | dct t kvs => exact h.elim
def τCons (a : DT) (b : DTA) : DTA := fun x ρ Q => a x ρ fun s => b x ρ fun ss => consQ s ss Q
theorem da_nil : DA K mg W X [] tNil τNil := ⟨pa_nil, fun _ _ _ _ _ _ _ G H _ _ r q k => k [] [] G H .refl r.ok trivial q⟩
theorem da_cons {e : Expr} {es : List Expr} {t : TE} {u : TA} {τ : DT} {υ : DTA} (a : DE K mg W X e t τ) (b : DA K mg W X es u υ) (hs : starEach (e :: es) X.env = (false, eval e X.env) :: starEach es X.env := by rfl) :
    DA K mg W X (e :: es) (tCons t u) (τCons τ υ) := by
  refine ⟨pa_cons a.pe b.pe hs, fun Z G0 H0 x hx σ ρ G H Q Qd r h k => ?_⟩
  refine a.sem Z G0 H0 x hx σ ρ G H _ _ r h fun s v G1 H1 g h1 => ?_
  obtain ⟨G2, g2, _⟩ := g.fz
  refine b.sem Z G0 H0 x hx σ ρ G2 H1 _ _ (r.mono g2.ext g2.ok) h1 fun ss vs G3 H3 e3 o3 v3 q3 => ?_
  exact k (s.fz :: ss) (v :: vs) G3 H3 (g2.ext.trans e3) o3 ⟨⟨g2.sv.mono e3, (consQ_fz q3).1⟩, v3⟩ (consQ_fz q3).2

/-- the items are all data that stands still -/
def datas : List S → Option (List D)
  | [] => some []
  | .dat d :: r => (datas r).map (d :: ·)
  | _ :: _ => none
theorem SVs.datas {Z : Rg} {K : PySem.W.Frag} {G H : Hp} : ∀ {vs : List V} {ss : List S} {ds : List D}, SVs Z K G H vs ss → datas ss = some ds → DqAll K G vs ds
  | [], [], _, _, e => by
    have e' := Option.some.inj e
    subst e'; exact .nil
  | v :: vs, .dat d :: r, ds, h, e => by
    have e0 : (DL.datas r).map (d :: ·) = some ds := e
    cases q : DL.datas r with
    | none => rw [q] at e0; cases e0
    | some es =>
      rw [q] at e0
      have e' : d :: es = ds := Option.some.inj e0
      subst e'
      exact .cons h.1.1 (SVs.datas h.2 q)
  | _ :: _, .own _ :: _, _, _, e => by cases (show none = some _ from e)
  | _ :: _, .bor _ :: _, _, _, e => by cases (show none = some _ from e)
  | _ :: _, .tok :: _, _, _, e => by cases (show none = some _ from e)
  | [], _ :: _, _, h, _ => h.elim
  | _ :: _, [], _, h, _ => h.elim
theorem SVs.length {Z : Rg} {K : PySem.W.Frag} {G H : Hp} : ∀ {vs : List V} {ss : List S}, SVs Z K G H vs ss → vs.length = ss.length
  | [], [], _ => rfl
  | _ :: _, _ :: _, h => congrArg (· + 1) (SVs.length h.2)
  | [], _ :: _, h => h.elim
  | _ :: _, [], h => h.elim
def τTup (a : DTA) : DT := fun x ρ Q => a x ρ fun ss => match datas ss with | some ds => ds.length ≤ sizeLine ∧ Q (.dat (.tuple ds)) | none => False
def τLst (a : DTA) : DT := fun x ρ Q => a x ρ fun ss => match datas ss with | some ds => ds.length ≤ sizeLine ∧ Q (.own ds) | none => False
theorem de_tup {es : List Expr} {t : TA} {τ : DTA} {j} (a : DA K mg W X es t τ) : DE K mg W X (.Tuple es j pos) (tTup t) (τTup τ) := by
  refine ⟨pe_tup a.pe, fun Z G0 H0 x hx σ ρ G H Q Qd r h k => ?_⟩
  refine a.sem Z G0 H0 x hx σ ρ G H _ _ r h fun ss vs G1 H1 e o hv q => ?_
  split at q
  · rename_i ds e1
    have hd := hv.datas e1
    refine ⟨by rw [hd.length]; exact q.1, fun p hp => ?_⟩
    exact k _ _ _ _ (.after e (.newT o hp hd)) q.2
  · exact q.elim
theorem de_lst {es : List Expr} {t : TA} {τ : DTA} (a : DA K mg W X es t τ) : DE K mg W X (.List es pos) (tLst t) (τLst τ) := by
  refine ⟨pe_lst a.pe, fun Z G0 H0 x hx σ ρ G H Q Qd r h k => ?_⟩
  refine a.sem Z G0 H0 x hx σ ρ G H _ _ r h fun ss vs G1 H1 e o hv q => ?_
  split at q
  · rename_i ds e1
    have hd := hv.datas e1
    refine ⟨by rw [hd.length]; exact q.1, fun p hp => ?_⟩
    exact k _ _ _ _ (.after e (.newL o hp hd)) q.2
  · exact q.elim

/-! ### operations by values -/
def Lift2 (K : PySem.W.Frag) (r : R2) (β : S → S → (S → Prop) → Prop) : Prop :=
  ∀ (Z : Rg) (G H : Hp) (v u : V) (s t : S) (Q : VK) (Qd : S → Prop), Ok Z G H → SV Z K G H v s → SV Z K G H u t → β s t Qd → (∀ s' v' G' H', Got Z K G H G' H' v' s' → Qd s' → Q v' H') → r v u H Q
def LiftA (K : PySem.W.Frag) (r : List V → Hp → VK → Prop) (β : List S → (S → Prop) → Prop) : Prop :=
  ∀ (Z : Rg) (G H : Hp) (vs : List V) (ss : List S) (Q : VK) (Qd : S → Prop), Ok Z G H → SVs Z K G H vs ss → β ss Qd → (∀ s' v' G' H', Got Z K G H G' H' v' s' → Qd s' → Q v' H') → r vs H Q
def τOp (β : S → S → (S → Prop) → Prop) (a b : DT) : DT := fun x ρ Q => a x ρ fun s => b x ρ fun t => β s t Q
theorem sem_op {K : PySem.W.Frag} {mg : Str → Option Value} {r : R2} {β : S → S → (S → Prop) → Prop} {ta tb : TE} {τa τb : DT} (L : Lift2 K r β) (a : Sem K mg W ta τa) (b : Sem K mg W tb τb) : Sem K mg W (tOp r ta tb) (τOp β τa τb) := by
  intro Z G0 H0 x hx σ ρ G H Q Qd R h k
  refine a Z G0 H0 x hx σ ρ G H _ _ R h fun s v G1 H1 g1 h1 => ?_
  refine b Z G0 H0 x hx σ ρ G1 H1 _ _ (R.mono g1.ext g1.ok) h1 fun t u G2 H2 g2 h2 => ?_
  exact L Z G2 H2 v u s t Q Qd g2.ok (g1.sv.mono g2.ext) g2.sv h2 fun s' v' G' H' g q => k s' v' G' H' (.after (g1.ext.trans g2.ext) g) q
theorem de_op {op : Operator} {r : R2} {β : S → S → (S → Prop) → Prop} {e f : Expr} {ta tb : TE} {τa τb : DT} (L : Lift2 K r β) (ho : OpR X (binaryOp op) r) (a : DE K mg W X e ta τa) (b : DE K mg W X f tb τb) :
    DE K mg W X (.BinOp e op f pos) (tOp r ta tb) (τOp β τa τb) := ⟨pe_op ho a.pe b.pe, sem_op L a.sem b.sem⟩
theorem de_cmp {op : CmpOp} {r : R2} {β : S → S → (S → Prop) → Prop} {e f : Expr} {ta tb : TE} {τa τb : DT} (L : Lift2 K r β) (ho : OpR X (compareOp op) r) (a : DE K mg W X e ta τa) (b : DE K mg W X f tb τb) (hm : behindInMarks op f = false) :
    DE K mg W X (.Compare e [op] [f] pos) (tOp r ta tb) (τOp β τa τb) := ⟨pe_cmpR ho a.pe b.pe hm, sem_op L a.sem b.sem⟩
theorem de_ix {r : R2} {β : S → S → (S → Prop) → Prop} {e f : Expr} {ta tb : TE} {τa τb : DT} (L : Lift2 K r β) (ho : IxR X r) (a : DE K mg W X e ta τa) (b : DE K mg W X f tb τb) (hs : PlainIx f := by exact fun _ _ => rfl) :
    DE K mg W X (.Subscript e f pos) (tOp r ta tb) (τOp β τa τb) := ⟨pe_ix ho a.pe b.pe hs, sem_op L a.sem b.sem⟩
def τTest (a : DT) : DTT := fun x ρ Q => a x ρ fun s => match s with | .dat (.bool b) => Q b | _ => False
theorem sem_test {K : PySem.W.Frag} {mg : Str → Option Value} {t : TE} {τ : DT} (a : Sem K mg W t τ) : SemT K mg W (tTest t) (τTest τ) := by
  intro Z G0 H0 x hx σ ρ G H Q Qd R h k
  refine a Z G0 H0 x hx σ ρ G H _ _ R h fun s v G1 H1 g1 h1 => ?_
  split at h1
  · rename_i b
    exact ⟨b, g1.sv.bl, k b G1 H1 g1.ext g1.ok h1⟩
  · exact h1.elim
theorem dt_cmp {op : CmpOp} {r : R2} {β : S → S → (S → Prop) → Prop} {e f : Expr} {ta tb : TE} {τa τb : DT} (L : Lift2 K r β) (ho : OpR X (compareOp op) r) (a : DE K mg W X e ta τa) (b : DE K mg W X f tb τb) (hm : behindInMarks op f = false) :
    DC K mg W X (.Compare e [op] [f] pos) (tTest (tOp r ta tb)) (τTest (τOp β τa τb)) := ⟨pt_cmpR ho a.pe b.pe hm, sem_test (sem_op L a.sem b.sem)⟩
/-- a bool's expression as a test -/
theorem dt_val {e : Expr} {t : TE} {τ : DT} (a : DE K mg W X e t τ) (he : ∀ whole, isTrue e X.env whole = (do let v ← whole; standAt e.pos; holding [v] (truthy v)) := by intro _; rfl) : DC K mg W X e (tB t) (τTest τ) :=
  ⟨pt_val a.pe he, sem_test a.sem⟩
def tru : D → (Bool → Prop) → Prop
  | .none, Q => Q false
  | .bool b, Q => Q b
  | .int i, Q => Q (i != 0)
  | .str z, Q => z.length ≤ sizeLine ∧ Q ((z.length : Int) != 0)
  | .list ds, Q => Q (!ds.isEmpty)
  | .tuple ds, Q => Q (!ds.isEmpty)
  | .dict _, _ => False
def τTru (a : DT) : DTT := fun x ρ Q => a x ρ fun s => s ≠ .tok ∧ tru s.d Q
theorem dt_tru {e : Expr} {t : TE} {τ : DT} (a : DE K mg W X e t τ) (he : ∀ whole, isTrue e X.env whole = (do let v ← whole; standAt e.pos; holding [v] (truthy v)) := by intro _; rfl) (hK : X.K = K := by rfl) :
    DC K mg W X e (fun σ H Q => t σ H fun x H' => ∃ k, TruV K x H' k ∧ Q k H') (τTru τ) := by
  subst hK
  refine ⟨pt_truth a.pe he, fun Z G0 H0 x hx σ ρ G H Q Qd R h k => ?_⟩
  refine a.sem Z G0 H0 x hx σ ρ G H _ _ R h fun s v G1 H1 g1 ⟨ht, h1⟩ => ?_
  have hd := g1.sv.dpH g1.ok ht (by rintro t kvs rfl; exact h1)
  generalize s.d = d at h1 hd
  have emp : ∀ {xs : List V} {ds : List D}, DqAll X.K H1 xs ds → xs.isEmpty = ds.isEmpty := fun h => by cases h <;> rfl
  cases hd with
  | non => exact ⟨false, rfl, k _ G1 H1 g1.ext g1.ok h1⟩
  | bl b => exact ⟨b, rfl, k _ G1 H1 g1.ext g1.ok h1⟩
  | int i => exact ⟨_, rfl, k _ G1 H1 g1.ext g1.ok h1⟩
  | str z => exact ⟨_, ⟨h1.1, rfl⟩, k _ G1 H1 g1.ext g1.ok h1.2⟩
  | lst q1 q2 => exact ⟨_, .inl ⟨_, q1, rfl⟩, k _ G1 H1 g1.ext g1.ok (by rw [emp q2]; exact h1)⟩
  | tup q1 q2 => exact ⟨_, .inr (.inl ⟨_, .inl (.inl q1), rfl⟩), k _ G1 H1 g1.ext g1.ok (by rw [emp q2]; exact h1)⟩
  | dkk q1 q2 => exact h1.elim
  | dkt q1 q2 => exact h1.elim
def τNot (a : DTT) : DTT := fun x ρ Q => a x ρ fun b => Q (!b)
theorem dt_not {e : Expr} {t : TT} {τ : DTT} (a : DC K mg W X e t τ) : DC K mg W X (.UnaryOp .Not e pos) (tNot t) (τNot τ) :=
  ⟨pt_not a.pe, fun Z G0 H0 x hx σ ρ G H Q Qd R h k => a.sem Z G0 H0 x hx σ ρ G H _ _ R h fun b G1 H1 e1 o1 h1 => k (!b) G1 H1 e1 o1 h1⟩
/-! and, or as tests -/
structure DW (K : PySem.W.Frag) (mg : Str → Option Value) (W : WX) (X : Cx) (e : Expr) (t : TT) (τ : DTT) : Prop where
  pe : PW X e t
  sem : SemT K mg W t τ
def τAnd (a b : DTT) : DTT := fun x ρ Q => a x ρ fun c => if c = true then b x ρ Q else Q false
def τOr (a b : DTT) : DTT := fun x ρ Q => a x ρ fun c => if c = true then Q true else b x ρ Q
variable {e f : Expr} {rest : List Expr} {t u : TT} {τ υ : DTT}
theorem dw_and1 (a : DC K mg W X e t τ) : DW K mg W X (.BoolOp .And [e] pos) t τ := ⟨pw_and1 a.pe, a.sem⟩
theorem dw_or1 (a : DC K mg W X e t τ) : DW K mg W X (.BoolOp .Or [e] pos) t τ := ⟨pw_or1 a.pe, a.sem⟩
theorem dw_and (a : DC K mg W X e t τ) (b : DW K mg W X (.BoolOp .And (f :: rest) pos) u υ) : DW K mg W X (.BoolOp .And (e :: f :: rest) pos) (tAnd t u) (τAnd τ υ) := by
  refine ⟨pw_and a.pe b.pe, fun Z G0 H0 x hx σ ρ G H Q Qd R h k => ?_⟩
  refine a.sem Z G0 H0 x hx σ ρ G H _ _ R h fun c G1 H1 e1 o1 h1 => ?_
  by_cases hc : c = true
  · rw [if_pos hc] at h1 ⊢
    exact b.sem Z G0 H0 x hx σ ρ G1 H1 _ _ (R.mono e1 o1) h1 fun c G2 H2 e2 o2 h2 => k c G2 H2 (e1.trans e2) o2 h2
  · rw [if_neg hc] at h1 ⊢
    exact k false G1 H1 e1 o1 h1
theorem dw_or (a : DC K mg W X e t τ) (b : DW K mg W X (.BoolOp .Or (f :: rest) pos) u υ) : DW K mg W X (.BoolOp .Or (e :: f :: rest) pos) (tOr t u) (τOr τ υ) := by
  refine ⟨pw_or a.pe b.pe, fun Z G0 H0 x hx σ ρ G H Q Qd R h k => ?_⟩
  refine a.sem Z G0 H0 x hx σ ρ G H _ _ R h fun c G1 H1 e1 o1 h1 => ?_
  by_cases hc : c = true
  · rw [if_pos hc] at h1 ⊢
    exact k true G1 H1 e1 o1 h1
  · rw [if_neg hc] at h1 ⊢
    exact b.sem Z G0 H0 x hx σ ρ G1 H1 _ _ (R.mono e1 o1) h1 fun c G2 H2 e2 o2 h2 => k c G2 H2 (e1.trans e2) o2 h2
theorem DW.dt (a : DW K mg W X e t τ) : DC K mg W X e t τ := ⟨a.pe.pt, a.sem⟩
/-! and, or, not as values of bools -/
variable {te tf : TE} {τe τf : DT}
def τAndV (a b : DT) : DT := fun x ρ Q => a x ρ fun s => match s with | .dat (.bool c) => if c = true then b x ρ Q else Q (.dat (.bool false)) | _ => False
def τOrV (a b : DT) : DT := fun x ρ Q => a x ρ fun s => match s with | .dat (.bool c) => if c = true then Q (.dat (.bool true)) else b x ρ Q | _ => False
def τNotV (a : DT) : DT := fun x ρ Q => a x ρ fun s => match s with | .dat (.bool c) => Q (.dat (.bool (!c))) | _ => False
theorem de_one {op} (a : DE K mg W X e te τe) : DE K mg W X (.BoolOp op [e] pos) te τe := ⟨pe_one a.pe, a.sem⟩
theorem de_and (a : DE K mg W X e te τe) (b : DE K mg W X (.BoolOp .And (f :: rest) pos) tf τf) : DE K mg W X (.BoolOp .And (e :: f :: rest) pos) (tAndV te tf) (τAndV τe τf) := by
  refine ⟨pe_and a.pe b.pe, fun Z G0 H0 x hx σ ρ G H Q Qd R h k => ?_⟩
  refine a.sem Z G0 H0 x hx σ ρ G H _ _ R h fun s v G1 H1 g1 h1 => ?_
  split at h1
  · rename_i c
    refine ⟨c, g1.sv.bl, ?_⟩
    by_cases hc : c = true
    · rw [if_pos hc] at h1 ⊢
      exact b.sem Z G0 H0 x hx σ ρ G1 H1 _ _ (R.mono g1.ext g1.ok) h1 fun s v G2 H2 g2 h2 => k s v G2 H2 (.after g1.ext g2) h2
    · rw [if_neg hc] at h1 ⊢
      exact k _ _ G1 H1 (.after g1.ext (.here g1.ok (.bl false))) h1
  · exact h1.elim
theorem de_or (a : DE K mg W X e te τe) (b : DE K mg W X (.BoolOp .Or (f :: rest) pos) tf τf) : DE K mg W X (.BoolOp .Or (e :: f :: rest) pos) (tOrV te tf) (τOrV τe τf) := by
  refine ⟨pe_or a.pe b.pe, fun Z G0 H0 x hx σ ρ G H Q Qd R h k => ?_⟩
  refine a.sem Z G0 H0 x hx σ ρ G H _ _ R h fun s v G1 H1 g1 h1 => ?_
  split at h1
  · rename_i c
    refine ⟨c, g1.sv.bl, ?_⟩
    by_cases hc : c = true
    · rw [if_pos hc] at h1 ⊢
      exact k _ _ G1 H1 (.after g1.ext (.here g1.ok (.bl true))) h1
    · rw [if_neg hc] at h1 ⊢
      exact b.sem Z G0 H0 x hx σ ρ G1 H1 _ _ (R.mono g1.ext g1.ok) h1 fun s v G2 H2 g2 h2 => k s v G2 H2 (.after g1.ext g2) h2
  · exact h1.elim
theorem de_not (a : DE K mg W X e te τe) : DE K mg W X (.UnaryOp .Not e pos) (tNotV te) (τNotV τe) := by
  refine ⟨pe_not a.pe, fun Z G0 H0 x hx σ ρ G H Q Qd R h k => ?_⟩
  refine a.sem Z G0 H0 x hx σ ρ G H _ _ R h fun s v G1 H1 g1 h1 => ?_
  split at h1
  · rename_i c
    exact ⟨c, g1.sv.bl, k _ _ G1 H1 (.after g1.ext (.here g1.ok (.bl _))) h1⟩
  · exact h1.elim
def τIf (c : DTT) (a b : DT) : DT := fun x ρ Q => c x ρ fun k => if k = true then a x ρ Q else b x ρ Q
theorem de_if {c : Expr} (hc : DC K mg W X c t τ) (a : DE K mg W X e te τe) (b : DE K mg W X f tf τf) : DE K mg W X (.IfExp c e f pos) (tIf t te tf) (τIf τ τe τf) := by
  refine ⟨pe_ifExp hc.pe a.pe b.pe, fun Z G0 H0 x hx σ ρ G H Q Qd R h k => ?_⟩
  refine hc.sem Z G0 H0 x hx σ ρ G H _ _ R h fun c G1 H1 e1 o1 h1 => ?_
  by_cases hc : c = true
  · rw [if_pos hc] at h1 ⊢
    exact a.sem Z G0 H0 x hx σ ρ G1 H1 _ _ (R.mono e1 o1) h1 fun s v G2 H2 g2 h2 => k s v G2 H2 (.after e1 g2) h2
  · rw [if_neg hc] at h1 ⊢
    exact b.sem Z G0 H0 x hx σ ρ G1 H1 _ _ (R.mono e1 o1) h1 fun s v G2 H2 g2 h2 => k s v G2 H2 (.after e1 g2) h2
end

/-! ### operations -/
section
variable {K : PySem.W.Frag}
def bI0 (g : Int → Int → D) : S → S → (S → Prop) → Prop := fun s t Q => match s, t with
  | .dat (.int i), .dat (.int j) => Q (.dat (g i j))
  | _, _ => False
def bI (C : Int → Int → Prop) (g : Int → Int → D) : S → S → (S → Prop) → Prop := fun s t Q => match s, t with
  | .dat (.int i), .dat (.int j) => C i j ∧ Q (.dat (g i j))
  | _, _ => False
theorem lift_I0 {g : Int → Int → V} {g' : Int → Int → D} (h : ∀ i j G, Dq K G (g i j) (g' i j)) : Lift2 K (rI0 g) (bI0 g') := by
  intro Z G H v u s t Q Qd o h1 h2 b k
  unfold bI0 at b
  split at b
  · exact ⟨_, _, h1.int, h2.int, k _ _ G H (.here o (h _ _ G)) b⟩
  · exact b.elim
theorem lift_I {C : Int → Int → Prop} {g : Int → Int → V} {g' : Int → Int → D} (h : ∀ i j G, Dq K G (g i j) (g' i j)) : Lift2 K (rI C g) (bI C g') := by
  intro Z G H v u s t Q Qd o h1 h2 b k
  unfold bI at b
  split at b
  · exact ⟨_, _, h1.int, h2.int, b.1, k _ _ G H (.here o (h _ _ G)) b.2⟩
  · exact b.elim
/-- == and != of data -/
def bEq : S → S → (S → Prop) → Prop := fun s t Q => (s ≠ .tok ∧ t ≠ .tok) ∧ (shp s.d = true ∧ shp t.d = true) ∧ Q (.dat (.bool (PyData.eqv s.d t.d)))
def bNe : S → S → (S → Prop) → Prop := fun s t Q => (s ≠ .tok ∧ t ≠ .tok) ∧ (shp s.d = true ∧ shp t.d = true) ∧ Q (.dat (.bool (!PyData.eqv s.d t.d)))
theorem lift_eq : Lift2 K (rEqD K) bEq := fun Z G H v u s t Q Qd o h1 h2 b k =>
  ⟨s.d, t.d, h1.dpN o b.1.1 b.2.1.1, h2.dpN o b.1.2 b.2.1.2, shp_sh b.2.1.1, shp_sh b.2.1.2, k _ _ G H (.here o (.bl _)) b.2.2⟩
theorem lift_ne : Lift2 K (rNeD K) bNe := fun Z G H v u s t Q Qd o h1 h2 b k =>
  ⟨s.d, t.d, h1.dpN o b.1.1 b.2.1.1, h2.dpN o b.1.2 b.2.1.2, shp_sh b.2.1.1, shp_sh b.2.1.2, k _ _ G H (.here o (.bl _)) b.2.2⟩
/-- is None -/
def isNone : S → Bool
  | .dat .none => true
  | _ => false
def bIsN : S → S → (S → Prop) → Prop := fun s t Q => match t with | .dat .none => Q (.dat (.bool (isNone s))) | _ => False
def bNotN : S → S → (S → Prop) → Prop := fun s t Q => match t with | .dat .none => Q (.dat (.bool (!isNone s))) | _ => False
theorem SV.isNone {Z : Rg} {G H : Hp} {v : V} {s : S} (h : SV Z K G H v s) : decide (v = .non) = isNone s := by
  cases s with
  | dat d =>
    have h' : Dq K G v d := h
    cases h' <;> rfl
  | own ds => obtain ⟨l, _, rfl, _⟩ := h; rfl
  | bor ds => obtain ⟨l, _, rfl, _⟩ := h; rfl
  | tok => obtain ⟨rfl, _⟩ := h; rfl
  | dct t kvs => obtain ⟨l, _, rfl, _⟩ := h; rfl
theorem lift_isN : Lift2 K (fun x y H Q => y = .non ∧ Q (.bl (decide (x = .non))) H) bIsN := by
  intro Z G H v u s t Q Qd o h1 h2 b k
  unfold bIsN at b
  split at b
  · have e : Dq K G u .none := h2
    cases e
    exact ⟨rfl, by rw [h1.isNone]; exact k _ _ G H (.here o (.bl _)) b⟩
  · exact b.elim
theorem lift_notN : Lift2 K (fun x y H Q => y = .non ∧ Q (.bl (!decide (x = .non))) H) bNotN := by
  intro Z G H v u s t Q Qd o h1 h2 b k
  unfold bNotN at b
  split at b
  · have e : Dq K G u .none := h2
    cases e
    exact ⟨rfl, by rw [h1.isNone]; exact k _ _ G H (.here o (.bl _)) b⟩
  · exact b.elim
/-- the item at a place -/
def atD (ds : List D) (i : Int) : Option D := if 0 ≤ i then ds[i.toNat]? else if 0 ≤ i + ds.length then ds[(i + ds.length).toNat]? else none
end
end DL

set_option Elab.async false
set_option linter.all false
set_option maxRecDepth 100000
set_option maxHeartbeats 4000000
/-! DL3: operations, subscripts, built-ins. -/
namespace DL
open PySem PySem.Spec PyProof.Rows L2

section
variable {K : PySem.W.Frag} {Z : Rg} {G H : Hp}

/-! ### subscripts -/
theorem dpAll_atI {xs : List V} {ds : List D} {i : Int} {d : D} (h : DqAll K G xs ds) (e : atI ds i = some d) : ∃ v, atI xs i = some v ∧ Dq K G v d := by
  unfold atI at e ⊢
  rw [h.length]
  cases q : ixN ds.length i with
  | none => rw [q] at e; cases e
  | some j =>
    rw [q] at e
    exact h.get e
def bIx : S → S → (S → Prop) → Prop := fun s t Q => match t with
  | .dat (.int i) => (match s.d with
    | .list ds => (match atI ds i with | some d => Q (.dat d) | none => False)
    | .tuple ds => (match atI ds i with | some d => Q (.dat d) | none => False)
    | .str z => z.length ≤ sizeLine ∧ (match atI z.cps.toList i with | some c => Q (.dat (.str ⟨#[c]⟩)) | none => False)
    | _ => False)
  | _ => False
theorem lift_ix : Lift2 K (rIx K) bIx := by
  intro Z G H v u s t Q Qd o h1 h2 b k
  unfold bIx at b
  split at b
  · rename_i i
    split at b
    · rename_i ds e
      split at b
      · rename_i d e2
        obtain ⟨a, xs, rfl, q1, q2⟩ := h1.list o e
        obtain ⟨w, q3, q4⟩ := dpAll_atI q2 e2
        exact .inl ⟨a, xs, i, w, rfl, h2.int, q1, q3, k _ _ G H (.here o q4) b⟩
      · exact b.elim
    · rename_i ds e
      split at b
      · rename_i d e2
        obtain ⟨a, xs, rfl, q1, q2⟩ := h1.tup o e
        obtain ⟨w, q3, q4⟩ := dpAll_atI q2 e2
        exact .inr (.inl ⟨a, xs, i, w, rfl, h2.int, sqT_mono o.s q1, q3, k _ _ G H (.here o q4) b⟩)
      · exact b.elim
    · rename_i z e
      obtain ⟨b1, b2⟩ := b
      split at b2
      · rename_i c e2
        have h1' : v = .str z := by
          cases s with
          | dat d =>
            have e' : d = .str z := e
            subst e'
            exact h1.str
          | own ds => cases (show PyData.list ds = .str z from e)
          | bor ds => cases (show PyData.list ds = .str z from e)
          | tok => cases (show PyData.none = .str z from e)
          | dct t kvs => cases (show PyData.dict kvs = .str z from e)
        exact .inr (.inr ⟨z, i, c, h1', h2.int, b1, e2, k _ _ G H (.here o (.str _)) b2⟩)
      · exact b2.elim
    · exact b.elim
  · exact b.elim

/-! ### slices -/
def cutG {α : Type} (xs : List α) (lo hi : Option Int) : List α := (xs.drop (HT.sIx xs.length 0 lo)).take (HT.sIx xs.length xs.length hi - HT.sIx xs.length 0 lo)
theorem dpAll_cut {xs : List V} {ds : List D} {lo hi : Option Int} (h : DqAll K G xs ds) : DqAll K G (cutV xs lo hi) (cutG ds lo hi) := by
  unfold cutV cutG
  rw [h.length]
  exact (h.drop _).take _
theorem cutG_whole {α : Type} {xs : List α} {lo hi : Option Int} (h1 : HT.sIx xs.length 0 lo = 0) (h2 : HT.sIx xs.length xs.length hi = xs.length) : cutG xs lo hi = xs := by
  unfold cutG
  rw [h1, h2]
  simp
def rSlS (K : PySem.W.Frag) : V → Option Int → Option Int → Hp → VK → Prop := fun x lo hi H Q => rSlL K x lo hi H Q ∨ rSlA K x lo hi H Q
theorem sl_seq {X : Cx} : SlR X (rSlS X.K) := sl_list.or sl_tupA
def bSl : S → Option Int → Option Int → (S → Prop) → Prop := fun s lo hi Q => match s.d with
  | .list ds => Q (.own (cutG ds lo hi))
  | .tuple ds => Q (.dat (.tuple (cutG ds lo hi)))
  | _ => False
abbrev DTO := Xn → DEnv → (Option Int → Prop) → Prop
def SemO (K : PySem.W.Frag) (mg : Str → Option Value) (W : WX) (t : TO) (τ : DTO) : Prop :=
  ∀ (Z : Rg) (G0 H0 : Hp) (x : Xn), XOk Z K mg G0 H0 W x → ∀ (σ : L2.St) (ρ : DEnv) (G H : Hp) (Q : Option Int → Hp → Prop) (Qd : Option Int → Prop), SRel Z K G0 H0 G H σ ρ → τ x ρ Qd →
    (∀ b G' H', Ext Z G H G' H' → Ok Z G' H' → Qd b → Q b H') → t σ H Q
structure DO (K : PySem.W.Frag) (mg : Str → Option Value) (W : WX) (X : Cx) (e : Option Expr) (t : TO) (τ : DTO) : Prop where
  pe : PO X e t
  sem : SemO K mg W t τ
end
section
variable {K : PySem.W.Frag} {mg : Str → Option Value} {W : WX} {X : Cx} {pos : Pos} {e : Expr} {t : TE} {τ : DT}
def τNoPart : DTO := fun _ _ Q => Q none
def τPart (a : DT) : DTO := fun x ρ Q => a x ρ fun s => match s with | .dat (.int i) => Q (some i) | _ => False
theorem do_none : DO K mg W X none tNoPart τNoPart := ⟨po_none, fun _ _ _ _ _ _ _ G H _ _ r q k => k none G H .refl r.ok q⟩
theorem do_some (a : DE K mg W X e t τ) : DO K mg W X (some e) (tPart t) (τPart τ) := by
  refine ⟨po_some a.pe, fun Z G0 H0 x hx σ ρ G H Q Qd R h k => ?_⟩
  refine a.sem Z G0 H0 x hx σ ρ G H _ _ R h fun s v G1 H1 g1 h1 => ?_
  split at h1
  · exact ⟨_, g1.sv.int, k _ G1 H1 g1.ext g1.ok h1⟩
  · exact h1.elim
def τSl (a : DT) (l u : DTO) : DT := fun x ρ Q => a x ρ fun s => l x ρ fun lo => u x ρ fun hi => bSl s lo hi Q
theorem de_sl {lo hi : Option Expr} {tl th : TO} {τl τh : DTO} {p2 : Pos} (a : DE K mg W X e t τ) (l : DO K mg W X lo tl τl) (u : DO K mg W X hi th τh) (hK : X.K = K := by rfl) :
    DE K mg W X (.Subscript e (.Slice lo hi none p2) pos) (tSl (rSlS K) t tl th) (τSl τ τl τh) := by
  subst hK
  refine ⟨pe_slice sl_seq a.pe l.pe u.pe, fun Z G0 H0 x hx σ ρ G H Q Qd R h k => ?_⟩
  refine a.sem Z G0 H0 x hx σ ρ G H _ _ R h fun s v G1 H1 g1 h1 => ?_
  refine l.sem Z G0 H0 x hx σ ρ G1 H1 _ _ (R.mono g1.ext g1.ok) h1 fun lo G2 H2 e2 o2 h2 => ?_
  have e12 := g1.ext.trans e2
  refine u.sem Z G0 H0 x hx σ ρ G2 H2 _ _ (R.mono e12 o2) h2 fun hi G3 H3 e3 o3 h3 => ?_
  have e13 := e12.trans e3
  have sv := g1.sv.mono (e2.trans e3)
  unfold bSl at h3
  split at h3
  · rename_i ds e4
    obtain ⟨a, xs, rfl, q1, q2⟩ := sv.list o3 e4
    exact .inl ⟨a, xs, rfl, q1, fun p hp => k _ _ _ _ (.after e13 (.newL o3 hp (dpAll_cut q2))) h3⟩
  · rename_i ds e4
    obtain ⟨a, xs, rfl, q1, q2⟩ := sv.tupG o3 e4
    refine .inr ⟨a, xs, rfl, .inl (.inl (o3.s _ _ q1)), fun hw => ?_, fun _ p hp => k _ _ _ _ (.after e13 (.newT o3 hp (dpAll_cut q2))) h3⟩
    refine k _ _ _ _ (.after e13 (.here o3 ?_)) h3
    rw [q2.length] at hw
    rw [cutG_whole hw.1 hw.2]
    exact .tup q1 q2
  · exact h3.elim

/-! ### calls of built-ins -/
def τCB (β : List S → (S → Prop) → Prop) (a : DTA) : DT := fun x ρ Q => a x ρ fun ss => β ss Q
variable {es : List Expr} {ta : TA} {υ : DTA} {r : List V → Hp → VK → Prop} {β : List S → (S → Prop) → Prop} {nm : Str} {p : Pos} {id T : String}
theorem sem_cb {K : PySem.W.Frag} {mg : Str → Option Value} (L : LiftA K r β) (a : SemA K mg W ta υ) : Sem K mg W (tCB r ta) (τCB β υ) := by
  intro Z G0 H0 x hx σ ρ G H Q Qd R h k
  refine a Z G0 H0 x hx σ ρ G H _ _ R h fun ss vs G1 H1 e1 o1 hv h1 => ?_
  exact L Z G1 H1 vs ss Q Qd o1 hv h1 fun s' v' G' H' g q => k s' v' G' H' (.after e1 g) q
theorem de_cb (L : LiftA K r β) (hc : CallR X (.builtin id) r) (hg : Gl X nm) (hm : X.mg nm = none) (hv : bootBuiltins nm = some (.builtin id)) (a : DA K mg W X (e :: es) ta υ) (hn : nm ≠ "__name__" := by decide) (hdb : (nm == ("__debug__" : Str)) = false := by decide)
    (he : starEach (e :: es) X.env = (false, eval e X.env) :: starEach es X.env := by rfl) (hpl : (backTo pos (starEach es X.env)).any (·.1) = false := by rfl) : DE K mg W X (.Call (.Name nm p) (e :: es) [] pos) (tCB r ta) (τCB β υ) :=
  ⟨pe_callB hc hg hm hv a.pe hn hdb he hpl, sem_cb L a.sem⟩
theorem de_ct (L : LiftA K r β) (hc : CallR X (.type T) r) (hg : Gl X nm) (hm : X.mg nm = none) (hv : bootBuiltins nm = some (.type T)) (a : DA K mg W X (e :: es) ta υ) (hn : nm ≠ "__name__" := by decide) (hdb : (nm == ("__debug__" : Str)) = false := by decide)
    (he : starEach (e :: es) X.env = (false, eval e X.env) :: starEach es X.env := by rfl) (hpl : (backTo pos (starEach es X.env)).any (·.1) = false := by rfl) : DE K mg W X (.Call (.Name nm p) (e :: es) [] pos) (tCB r ta) (τCB β υ) :=
  ⟨pe_callTy hc hg hm hv a.pe hn hdb he hpl, sem_cb L a.sem⟩

/-! len -/
def rLen (K : PySem.W.Frag) : List V → Hp → VK → Prop := fun xs H Q => (∃ p ys, xs = [.ref p] ∧ (SqL K H p ys ∨ SqT K H p ys) ∧ Q (.int ys.length) H) ∨ (∃ z, xs = [.str z] ∧ z.length ≤ sizeLine ∧ Q (.int z.length) H)
theorem cr_len : CallR X (.builtin "len") (rLen X.K) := by
  intro pins s σ H xs us Q I r h
  rcases h with h | h
  · exact call_len_seq pins s σ H xs us Q I r h
  · exact call_len_str pins s σ H xs us Q I r h
def bLen : List S → (S → Prop) → Prop := fun ss Q => match ss with
  | [s] => (match s.d with
    | .list ds => Q (.dat (.int ds.length))
    | .tuple ds => Q (.dat (.int ds.length))
    | .str z => z.length ≤ sizeLine ∧ Q (.dat (.int z.length))
    | _ => False)
  | _ => False
theorem svs1 {Z : Rg} {K : PySem.W.Frag} {G H : Hp} {vs : List V} {s : S} (h : SVs Z K G H vs [s]) : ∃ v, vs = [v] ∧ SV Z K G H v s := by
  match vs, h with
  | [v], h => exact ⟨v, rfl, h.1.1⟩
theorem svs2 {Z : Rg} {K : PySem.W.Frag} {G H : Hp} {vs : List V} {s t : S} (h : SVs Z K G H vs [s, t]) : ∃ v u, vs = [v, u] ∧ SV Z K G H v s ∧ SV Z K G H u t := by
  match vs, h with
  | [v, u], h => exact ⟨v, u, rfl, h.1.1, h.2.1.1⟩
theorem SV.strD {Z : Rg} {K : PySem.W.Frag} {G H : Hp} {v : V} {s : S} {z : Str} (h1 : SV Z K G H v s) (e : s.d = .str z) : v = .str z := by
  cases s with
  | dat d =>
    have e' : d = .str z := e
    subst e'
    exact h1.str
  | own ds => cases (show PyData.list ds = .str z from e)
  | bor ds => cases (show PyData.list ds = .str z from e)
  | tok => cases (show PyData.none = .str z from e)
  | dct t kvs => cases (show PyData.dict kvs = .str z from e)
theorem lift_len {K : PySem.W.Frag} : LiftA K (rLen K) bLen := by
  intro Z G H vs ss Q Qd o h b k
  unfold bLen at b
  split at b
  · rename_i s
    obtain ⟨v, rfl, h1⟩ := svs1 h
    split at b
    · rename_i ds e
      obtain ⟨a, xs, rfl, q1, q2⟩ := h1.list o e
      exact .inl ⟨a, xs, rfl, .inl q1, by rw [q2.length]; exact k _ _ G H (.here o (.int _)) b⟩
    · rename_i ds e
      obtain ⟨a, xs, rfl, q1, q2⟩ := h1.tup o e
      exact .inl ⟨a, xs, rfl, .inr (sqT_mono o.s q1), by rw [q2.length]; exact k _ _ G H (.here o (.int _)) b⟩
    · rename_i z e
      exact .inr ⟨z, by rw [h1.strD e], b.1, k _ _ G H (.here o (.int _)) b.2⟩
    · exact b.elim
  · exact b.elim

/-! keys of a dict -/
theorem keyD_inj {a b : Key} (e : keyD a = keyD b) : a = b := by
  cases a <;> cases b <;> cases e <;> rfl
theorem keyDs_inj : ∀ {a b : List Key}, a.map keyD = b.map keyD → a = b
  | [], [], _ => rfl
  | [], _ :: _, e => by cases e
  | _ :: _, [], e => by cases e
  | x :: xs, y :: ys, e => by
    simp only [List.map_cons, List.cons.injEq] at e
    rw [keyD_inj e.1, keyDs_inj e.2]
/-- data that may be a key of a dict of this kind -/
def KeyOk (t : Bool) (d : D) : Prop := if t = true then ∃ ks : List Key, d = .tuple (ks.map keyD) else ∃ k : Key, d = keyD k
theorem dqKeys {K : PySem.W.Frag} {G : Hp} : ∀ (ks : List Key) (xs : List V), DqAll K G xs (ks.map keyD) → xs = ks.map kV
  | [], _, h => by cases h; rfl
  | k :: ks, _, h => by
    cases h with
    | cons h1 h2 =>
      rw [dqKeys ks _ h2]
      cases k with
      | inl i => cases h1; rfl
      | inr x => cases h1; rfl
theorem dqKey {K : PySem.W.Frag} {G : Hp} (k : Key) (x : V) (h : Dq K G x (keyD k)) : x = kV k := by
  cases k with
  | inl i => cases h; rfl
  | inr z => cases h; rfl
theorem dqK_in {K : PySem.W.Frag} {G : Hp} (k : Key) : ∀ (xs : List (Key × V)) (kvs : List (D × D)), DqK K G xs kvs → ((valV xs k).isSome = true ↔ keyD k ∈ kvs.map Prod.fst)
  | _, _, .nil => by simp [valV]
  | _, _, .cons (k := j) (v := v) (xs := xs) (kvs := kvs) h1 h2 => by
    by_cases e : j = k
    · subst e
      rw [valV_pos rfl]; simp
    · rw [valV_neg e, List.map_cons, List.mem_cons, dqK_in k xs kvs h2]
      exact ⟨.inr, fun q => q.resolve_left fun z => e (keyD_inj z).symm⟩
theorem dqT_in {K : PySem.W.Frag} {G : Hp} (k : List Key) : ∀ (xs : List (List Key × V)) (kvs : List (D × D)), DqT K G xs kvs → ((valV xs k).isSome = true ↔ PyData.tuple (k.map keyD) ∈ kvs.map Prod.fst)
  | _, _, .nil => by simp [valV]
  | _, _, .cons (k := j) (v := v) (xs := xs) (kvs := kvs) h1 h2 => by
    by_cases e : j = k
    · subst e
      rw [valV_pos rfl]; simp
    · rw [valV_neg e, List.map_cons, List.mem_cons, dqT_in k xs kvs h2]
      exact ⟨.inr, fun q => q.resolve_left fun z => e (keyDs_inj (PyData.tuple.inj z)).symm⟩
/-! in, not in: a list or tuple of data, a dict that stands still -/
def rInD (neg : Bool) : R2 := fun x y H Q => ∃ a o, y = .ref a ∧ DGet H a x o ∧ Q (.bl (if neg then !o.isSome else o.isSome)) H
def rInS (K : PySem.W.Frag) (neg : Bool) : R2 := fun x y H Q => (∃ d ds, Dp K H x d ∧ (Dp K H y (.list ds) ∨ Dp K H y (.tuple ds)) ∧ SeqAt.shaped d = true ∧ SeqAt.shaped (.list ds) = true ∧ Q (.bl (if neg then !ds.any fun z => PyData.eqv z d else ds.any fun z => PyData.eqv z d)) H) ∨ rInD neg x y H Q
theorem shaped_tl {ds : List D} : SeqAt.shaped (.list ds) = SeqAt.shaped (.tuple ds) := by
  simp only [SeqAt.shaped, PyData.canLay0, PyData.depth]
  all_goals rfl
theorem op_inS (hu : X.A.units + 65 < cLine) : OpR X (compareOp .In) (rInS X.K false) := by
  intro pins s σ H x y v u Q I rx ry h
  rcases h with ⟨d, ds, hd, he, sd, se, q⟩ | ⟨a, o, rfl, g, q⟩
  · obtain ⟨as, r1⟩ := Dp.reads I d x v hd rx
    have q' : Q (.bl (ds.any fun z => PyData.eqv z d)) H := q
    rcases he with he | he
    · obtain ⟨bs, r2⟩ := Dp.reads I (.list ds) y u he ry
      exact SeqAt.in_list_reads r2 r1 (SeqAt.canLay_of_shaped se) (SeqAt.canLay_of_shaped sd) (room_in_shaped sd hu) ⟨.bl _, H, I, rfl, q'⟩
    · obtain ⟨bs, r2⟩ := Dp.reads I (.tuple ds) y u he ry
      exact SeqAt.in_tuple_reads r2 r1 (SeqAt.canLay_of_shaped se) (SeqAt.canLay_of_shaped sd) (room_in_shaped sd hu) ⟨.bl _, H, I, rfl, q'⟩
  · obtain rfl : u = Value.ref a := ry
    exact d_in (by omega) I g rx fun s3 I3 => ⟨.bl o.isSome, H, I3, rfl, q⟩
theorem op_notInS (hu : X.A.units + 65 < cLine) : OpR X (compareOp .NotIn) (rInS X.K true) := by
  intro pins s σ H x y v u Q I rx ry h
  rcases h with ⟨d, ds, hd, he, sd, se, q⟩ | ⟨a, o, rfl, g, q⟩
  · obtain ⟨as, r1⟩ := Dp.reads I d x v hd rx
    have q' : Q (.bl (!ds.any fun z => PyData.eqv z d)) H := q
    rcases he with he | he
    · obtain ⟨bs, r2⟩ := Dp.reads I (.list ds) y u he ry
      exact SeqAt.notIn_list_reads r2 r1 (SeqAt.canLay_of_shaped se) (SeqAt.canLay_of_shaped sd) (room_in_shaped sd hu) ⟨.bl _, H, I, rfl, q'⟩
    · obtain ⟨bs, r2⟩ := Dp.reads I (.tuple ds) y u he ry
      exact SeqAt.notIn_tuple_reads r2 r1 (SeqAt.canLay_of_shaped se) (SeqAt.canLay_of_shaped sd) (room_in_shaped sd hu) ⟨.bl _, H, I, rfl, q'⟩
  · obtain rfl : u = Value.ref a := ry
    exact d_notIn (by omega) I g rx fun s3 I3 => ⟨.bl (!o.isSome), H, I3, rfl, q⟩
/-- whether s is a key -/
def inD (d : D) (kvs : List (D × D)) : Prop := d ∈ kvs.map Prod.fst
def bIn (neg : Bool) : S → S → (S → Prop) → Prop := fun s t Q => s ≠ .tok ∧ match t.d with
  | .list ds => (shp s.d = true ∧ shp (.list ds) = true) ∧ Q (.dat (.bool (if neg then !ds.any fun z => PyData.eqv z s.d else ds.any fun z => PyData.eqv z s.d)))
  | .tuple ds => (shp s.d = true ∧ shp (.list ds) = true) ∧ Q (.dat (.bool (if neg then !ds.any fun z => PyData.eqv z s.d else ds.any fun z => PyData.eqv z s.d)))
  | .dict kvs => (∃ d, s = .dat d ∧ ((∃ k : Key, d = keyD k ∧ ∀ x ∈ kvs, ∃ j, x.1 = keyD j) ∨ ∃ k : List Key, d = .tuple (k.map keyD) ∧ ∀ x ∈ kvs, ∃ j : List Key, x.1 = .tuple (j.map keyD))) ∧ kvs ≠ [] ∧ (∀ t' k', t ≠ .dct t' k') ∧ ∀ b : Bool, (b = true ↔ inD s.d kvs) → Q (.dat (.bool (if neg then !b else b)))
  | _ => False
theorem lift_in {K : PySem.W.Frag} {neg : Bool} : Lift2 K (rInS K neg) (bIn neg) := by
  intro Z G H v u s t Q Qd o h1 h2 b k
  obtain ⟨hs, b⟩ := b
  have ht : ∀ {d : D}, t.d = d → d ≠ .none → t ≠ .tok := fun e hn z => by subst z; exact hn e.symm
  split at b
  · rename_i ds e
    have q := h2.dpN o (ht e (by simp)) (by rw [e]; exact b.1.2)
    rw [e] at q
    exact .inl ⟨s.d, ds, h1.dpN o hs b.1.1, .inl q, shp_sh b.1.1, shp_sh b.1.2, k _ _ G H (.here o (.bl _)) b.2⟩
  · rename_i ds e
    have hn : shp t.d = true := by
      rw [e]
      have q := b.1.2
      unfold shp at q ⊢
      rw [← shaped_tl]
      simpa [noD] using q
    have q := h2.dpN o (ht e (by simp)) hn
    rw [e] at q
    exact .inl ⟨s.d, ds, h1.dpN o hs b.1.1, .inr q, shp_sh b.1.1, shp_sh b.1.2, k _ _ G H (.here o (.bl _)) b.2⟩
  · rename_i kvs e
    obtain ⟨⟨d, rfl, hk⟩, hne, hd, b⟩ := b
    have q := h2.dpH o (ht e (by simp)) hd
    rw [e] at q
    have h1' : Dq K G v d := h1
    cases q with
    | @dkk a ob xs _ q1 q2 =>
      rcases hk with ⟨y, rfl, _⟩ | ⟨y, rfl, hj⟩
      · cases dqKey y v h1'
        exact .inr ⟨a, valV xs y, rfl, .inl ⟨xs, y, .inr ⟨ob, q1⟩, rfl, rfl⟩, k _ _ G H (.here o (.bl _)) (b _ (dqK_in y xs kvs q2))⟩
      · exfalso
        cases q2 with
        | nil => exact hne rfl
        | cons c1 c2 =>
          rename_i j _ _ _ _
          obtain ⟨j', ej⟩ := hj _ List.mem_cons_self
          cases j <;> cases ej
    | @dkt a ob xs _ q1 q2 =>
      rcases hk with ⟨y, rfl, hj⟩ | ⟨y, rfl, _⟩
      · exfalso
        cases q2 with
        | nil => exact hne rfl
        | cons c1 c2 =>
          obtain ⟨j', ej⟩ := hj _ List.mem_cons_self
          cases j' <;> cases ej
      · cases h1' with
        | tup p1 p2 =>
          have ex := dqKeys y _ p2
          subst ex
          exact .inr ⟨a, valV xs y, rfl, .inr ⟨xs, y, _, .inr ⟨ob, q1⟩, rfl, o.s _ _ p1, rfl⟩, k _ _ G H (.here o (.bl _)) (b _ (dqT_in y xs kvs q2))⟩
  · exact b.elim

/-! + -/
def rCatS (K : PySem.W.Frag) : R2 := fun x y H Q => ∃ l b xs zs, x = .ref l ∧ y = .ref b ∧ SqL K H l xs ∧ SqL K H b zs ∧ xs.length + zs.length ≤ sizeLine ∧ ∀ p, H p = none → Q (.ref p) (upd H p (.lst (xs ++ zs)))
theorem op_catS : OpR X (binaryOp .Add) (rCatS X.K) := by
  intro pins s σ H x y v u Q I rx ry h
  obtain ⟨l, b, xs, zs, rfl, rfl, q1, q2, hlen, q⟩ := h
  cases rx
  cases ry
  obtain ⟨us, ru, pu, _⟩ := I.list q1
  obtain ⟨ws, rw', pw, _⟩ := I.list q2
  obtain ⟨⟨c1, d1, data1, s1⟩, g1, e1, m1, f1⟩ := pu.isList
  obtain ⟨⟨c2, d2, data2, s2⟩, g2, e2, m2, f2⟩ := pw.isList
  simp only at e1 f1 e2 f2
  subst e1 f1 e2 f2
  have z1 := ru.length
  have z2 := rw'.length
  refine concat_meets ⟨_, g1, rfl⟩ ⟨_, g2, rfl⟩ noFill_list_add seq_list_add PySem.F.slot_list_add PySem.F.entry_list_add (PySem.F.args_list_add_2 _ _) (PyProof.Rows.list_addW l b us.toArray ws.toArray m1 m2 d1 d2 s1 s2 (by rw [List.size_toArray, List.size_toArray]; omega)) ⟨g1, g2, ?_⟩
  have ea : us.toArray ++ ws.toArray = (us ++ ws).toArray := by simp
  rw [ea]
  exact ⟨.ref _, _, I.lnew (t' := s.toks) (ru.append rw') (by rw [List.length_append]; omega), rfl, q _ I.fresh⟩
def rPlus (K : PySem.W.Frag) : R2 := fun x y H Q => rI0 (fun i j => .int (i + j)) x y H Q ∨ rCatS K x y H Q ∨ rCatA K x y H Q ∨ ∃ i j, x = .str i ∧ y = .str j ∧ i.length + j.length ≤ sizeLine ∧ Q (.str (i ++ j)) H
theorem op_plus : OpR X (binaryOp .Add) (rPlus X.K) := op_add.or (op_catS.or (op_catA.or op_add_str))
def S.liv : S → Option (List D)
  | .own ds => some ds
  | .bor ds => some ds
  | _ => none
theorem SV.liv {Z : Rg} {K : PySem.W.Frag} {G H : Hp} {v : V} {s : S} {ds : List D} (h : SV Z K G H v s) (e : s.liv = some ds) : ∃ l xs, v = .ref l ∧ H l = some (.lst xs) ∧ DqAll K G xs ds := by
  cases s with
  | dat d => cases (show none = some ds from e)
  | own es =>
    have e' : es = ds := Option.some.inj e
    subst e'
    obtain ⟨l, xs, e1, e2, e3, _⟩ := h
    exact ⟨l, xs, e1, e2, e3⟩
  | bor es =>
    have e' : es = ds := Option.some.inj e
    subst e'
    obtain ⟨l, xs, e1, e2, e3, _⟩ := h
    exact ⟨l, xs, e1, e2, e3⟩
  | tok => cases (show none = some ds from e)
  | dct t kvs => cases (show none = some ds from e)
def bPlus : S → S → (S → Prop) → Prop := fun s t Q => match s, t with
  | .dat (.int i), .dat (.int j) => Q (.dat (.int (i + j)))
  | .dat (.tuple a), .dat (.tuple b) => a.length + b.length ≤ sizeLine ∧ Q (.dat (.tuple (a ++ b)))
  | .dat (.str a), .dat (.str b) => a.length + b.length ≤ sizeLine ∧ Q (.dat (.str (a ++ b)))
  | .own a, .own b => a.length + b.length ≤ sizeLine ∧ Q (.own (a ++ b))
  | .own a, .bor b => a.length + b.length ≤ sizeLine ∧ Q (.own (a ++ b))
  | .bor a, .own b => a.length + b.length ≤ sizeLine ∧ Q (.own (a ++ b))
  | .bor a, .bor b => a.length + b.length ≤ sizeLine ∧ Q (.own (a ++ b))
  | .dat (.list a), .own b => a.length + b.length ≤ sizeLine ∧ Q (.own (a ++ b))
  | .dat (.list a), .bor b => a.length + b.length ≤ sizeLine ∧ Q (.own (a ++ b))
  | .dat (.list a), .dat (.list b) => a.length + b.length ≤ sizeLine ∧ Q (.own (a ++ b))
  | .own a, .dat (.list b) => a.length + b.length ≤ sizeLine ∧ Q (.own (a ++ b))
  | .bor a, .dat (.list b) => a.length + b.length ≤ sizeLine ∧ Q (.own (a ++ b))
  | _, _ => False
theorem lift_plus {K : PySem.W.Frag} : Lift2 K (rPlus K) bPlus := by
  intro Z G H v u s t Q Qd o h1 h2 b k
  have lists : ∀ {x y : List D}, s.d = .list x → t.d = .list y → x.length + y.length ≤ sizeLine ∧ Qd (.own (x ++ y)) → rPlus K v u H Q := by
    intro x y e1 e2 b
    obtain ⟨l, xs, rfl, q1, q2⟩ := h1.list o e1
    obtain ⟨m, ys, rfl, q3, q4⟩ := h2.list o e2
    exact .inr (.inl ⟨l, m, xs, ys, rfl, rfl, q1, q3, by rw [q2.length, q4.length]; exact b.1, fun p hp => k _ _ _ _ (.newL o hp (q2.append q4)) b.2⟩)
  unfold bPlus at b
  split at b
  · exact .inl ⟨_, _, h1.int, h2.int, k _ _ G H (.here o (.int _)) b⟩
  · rename_i x y
    obtain ⟨a, xs, rfl, q1, q2⟩ := h1.tupG o rfl
    obtain ⟨c, ys, rfl, q3, q4⟩ := h2.tupG o rfl
    refine .inr (.inr (.inl ⟨a, c, xs, ys, rfl, rfl, .inl (.inl (o.s _ _ q1)), .inl (.inl (o.s _ _ q3)), by rw [q2.length, q4.length]; exact b.1, fun e => ?_, fun _ e => ?_, fun _ _ p hp => k _ _ _ _ (.newT o hp (q2.append q4)) b.2⟩))
    · subst e
      cases q2
      exact k _ _ G H (.here o (.tup q3 q4)) b.2
    · subst e
      cases q4
      have b2 := b.2
      rw [List.append_nil] at b2
      exact k _ _ G H (.here o (.tup q1 q2)) b2
  · exact .inr (.inr (.inr ⟨_, _, h1.str, h2.str, b.1, k _ _ G H (.here o (.str _)) b.2⟩))
  · exact lists rfl rfl b
  · exact lists rfl rfl b
  · exact lists rfl rfl b
  · exact lists rfl rfl b
  · exact lists rfl rfl b
  · exact lists rfl rfl b
  · exact lists rfl rfl b
  · exact lists rfl rfl b
  · exact lists rfl rfl b
  · exact b.elim

/-! sum of ints -/
def bSum : List S → (S → Prop) → Prop := fun ss Q => match ss with
  | [s] => ∃ ns : List Int, s.d = .list (ns.map PyData.int) ∧ Q (.dat (.int ns.sum))
  | _ => False
theorem lift_sum {K : PySem.W.Frag} : LiftA K (rSum K) bSum := by
  intro Z G H vs ss Q Qd o h b k
  unfold bSum at b
  split at b
  · obtain ⟨v, rfl, h1⟩ := svs1 h
    obtain ⟨ns, e, b⟩ := b
    obtain ⟨a, xs, rfl, q1, q2⟩ := h1.list o e
    rw [q2.ints] at q1
    exact ⟨a, ns, rfl, q1, k _ _ G H (.here o (.int _)) b⟩
  · exact b.elim

/-! tuple(x), list(x) -/
def rTuple (K : PySem.W.Frag) : List V → Hp → VK → Prop := fun xs H Q => ∃ p ys, xs = [.ref p] ∧ ((SqL K H p ys ∧ ∀ l, H l = none → Q (.ref l) (upd H l (.tup ys))) ∨ (SqT K H p ys ∧ Q (.ref p) H))
def rListOf (K : PySem.W.Frag) : List V → Hp → VK → Prop := fun xs H Q => ∃ p ys, xs = [.ref p] ∧ (SqL K H p ys ∨ SqT K H p ys) ∧ ∀ l, H l = none → Q (.ref l) (upd H l (.lst ys))
def bTuple : List S → (S → Prop) → Prop := fun ss Q => match ss with
  | [s] => (match s.d with
    | .list ds => Q (.dat (.tuple ds))
    | .tuple ds => Q (.dat (.tuple ds))
    | _ => False)
  | _ => False
def bList : List S → (S → Prop) → Prop := fun ss Q => match ss with
  | [s] => (match s.d with
    | .list ds => Q (.own ds)
    | .tuple ds => Q (.own ds)
    | _ => False)
  | _ => False
theorem lift_tuple {K : PySem.W.Frag} : LiftA K (rTuple K) bTuple := by
  intro Z G H vs ss Q Qd o h b k
  unfold bTuple at b
  split at b
  · obtain ⟨v, rfl, h1⟩ := svs1 h
    split at b
    · rename_i ds e
      obtain ⟨a, xs, rfl, q1, q2⟩ := h1.list o e
      exact ⟨a, xs, rfl, .inl ⟨q1, fun p hp => k _ _ _ _ (.newT o hp q2) b⟩⟩
    · rename_i ds e
      obtain ⟨a, xs, rfl, q1, q2⟩ := h1.tupG o e
      exact ⟨a, xs, rfl, .inr ⟨.inl (.inl (o.s _ _ q1)), k _ _ G H (.here o (.tup q1 q2)) b⟩⟩
    · exact b.elim
  · exact b.elim
theorem lift_list {K : PySem.W.Frag} : LiftA K (rListOf K) bList := by
  intro Z G H vs ss Q Qd o h b k
  unfold bList at b
  split at b
  · obtain ⟨v, rfl, h1⟩ := svs1 h
    split at b
    · rename_i ds e
      obtain ⟨a, xs, rfl, q1, q2⟩ := h1.list o e
      exact ⟨a, xs, rfl, .inl q1, fun p hp => k _ _ _ _ (.newL o hp q2) b⟩
    · rename_i ds e
      obtain ⟨a, xs, rfl, q1, q2⟩ := h1.tup o e
      exact ⟨a, xs, rfl, .inr (sqT_mono o.s q1), fun p hp => k _ _ _ _ (.newL o hp q2) b⟩
    · exact b.elim
  · exact b.elim
theorem cr_tuple : CallR X (.type "tuple") (rTuple X.K) := call_tuple_of
theorem cr_list : CallR X (.type "list") (rListOf X.K) := call_list_of
end
end DL

set_option Elab.async false
set_option linter.all false
set_option maxRecDepth 100000
set_option maxHeartbeats 4000000
/-! DL4: what is walked, targets, comprehensions, statements. -/
namespace DL
open PySem PySem.Spec PyProof.Rows L2

/-! ### what is walked -/
def TurnOk (Z : Rg) (K : PySem.W.Frag) (J : It) (G H : Hp) (items : List D) : Prop := ∀ i,
  (∀ d, items[i]? = some d → J.go i H ∧ ∀ v H3, J.yld i H v H3 → ∃ G3, Ext Z G H G3 H3 ∧ Ok Z G3 H3 ∧ Dq K G3 v d) ∧ (items[i]? = none → J.stop i H)
def ItF (Z : Rg) (K : PySem.W.Frag) (J : It) (G : Hp) (items : List D) : Prop := ∀ G2 H2, Ok Z G2 H2 → (∀ b u, G b = some u → G2 b = some u) → TurnOk Z K J G2 H2 items
def ItB (Z : Rg) (K : PySem.W.Frag) (J : It) (G H : Hp) (items : List D) : Prop := ∀ G2 H2, Ext Z G H G2 H2 → Ok Z G2 H2 → TurnOk Z K J G2 H2 items
abbrev DTI := Xn → DEnv → (List D → Prop) → Prop
def SemI (K : PySem.W.Frag) (mg : Str → Option Value) (W : WX) (t : TI) (ι : DTI) : Prop :=
  ∀ (Z : Rg) (G0 H0 : Hp) (x : Xn), XOk Z K mg G0 H0 W x → ∀ (σ : L2.St) (ρ : DEnv) (G H : Hp) (Q : It → Hp → Prop) (Qd : List D → Prop), SRel Z K G0 H0 G H σ ρ → ι x ρ Qd →
    (∀ items J G' H', Ext Z G H G' H' → Ok Z G' H' → ItF Z K J G' items → Qd items → Q J H') → t σ H Q
def SemB (K : PySem.W.Frag) (mg : Str → Option Value) (W : WX) (t : TI) (ι : DTI) : Prop :=
  ∀ (Z : Rg) (G0 H0 : Hp) (x : Xn), XOk Z K mg G0 H0 W x → ∀ (σ : L2.St) (ρ : DEnv) (G H : Hp) (Q : It → Hp → Prop) (Qd : List D → Prop), SRel Z K G0 H0 G H σ ρ → ι x ρ Qd →
    (∀ items J G' H', Ext Z G H G' H' → Ok Z G' H' → ItB Z K J G' H' items → Qd items → Q J H') → t σ H Q
theorem SemI.b {K : PySem.W.Frag} {mg : Str → Option Value} {W : WX} {t : TI} {ι : DTI} (h : SemI K mg W t ι) : SemB K mg W t ι :=
  fun Z G0 H0 x hx σ ρ G H Q Qd R h1 k => h Z G0 H0 x hx σ ρ G H Q Qd R h1 fun items J G' H' e o f q => k items J G' H' e o (fun G2 H2 e2 o2 => f G2 H2 o2 e2.g) q
structure DI (K : PySem.W.Frag) (mg : Str → Option Value) (W : WX) (X : Cx) (tg iter : Expr) (t : TI) (ι : DTI) : Prop where
  pe : PI X tg iter t
  sem : SemI K mg W t ι
structure DB (K : PySem.W.Frag) (mg : Str → Option Value) (W : WX) (X : Cx) (tg iter : Expr) (t : TI) (ι : DTI) : Prop where
  pe : PI X tg iter t
  sem : SemB K mg W t ι
theorem DI.b {K : PySem.W.Frag} {mg : Str → Option Value} {W : WX} {X : Cx} {tg iter : Expr} {t : TI} {ι : DTI} (h : DI K mg W X tg iter t ι) : DB K mg W X tg iter t ι := ⟨h.pe, h.sem.b⟩
section
variable {K : PySem.W.Frag} {mg : Str → Option Value} {W : WX} {X : Cx} {tg e : Expr} {te : TE} {τ : DT}
/-- a list or a tuple -/
def iSeq (K : PySem.W.Frag) (tl : TE) : TI := fun σ H R => tl σ H fun x H1 => ∃ a, x = .ref a ∧ (((∃ xs, SqL K H1 a xs) ∧ R (Itl K a) H1) ∨ ((∃ xs, SqT K H1 a xs) ∧ R (Itt K a) H1) ∨ ∃ o, (∃ kvs, H1 a = some (.frz o (.dK kvs)) ∧ R (Itk a o kvs) H1) ∨ ∃ kvs, H1 a = some (.frz o (.dT kvs)) ∧ R (Itkt a o kvs) H1)
theorem pi_seq (hl : PE X e te) : PI X tg e (iSeq X.K te) := by
  refine ⟨fun pins s0 σ H R I0 h => thn (hl.run pins s0 σ H _ I0 h) fun u s ⟨y, Hs, I, ry, q0⟩ => ?_⟩
  obtain ⟨a, ea, q0⟩ := q0
  subst ea
  cases ry
  have nw : ∀ b, b ∈ [s.heap.objs.size] → FpOk X pins Hs b := fun b hb => by
    rw [List.mem_singleton.mp hb]
    exact I.fpOk (Nat.le_refl _) (I.hok.fresh (Nat.le_refl _))
  rcases q0 with ⟨⟨xs, hq⟩, q⟩ | ⟨⟨xs, hq⟩, q⟩ | ⟨ob, ⟨kvs, hd, q⟩ | ⟨kvs, hd, q⟩⟩
  · obtain ⟨its, _, hp, _⟩ := I.list hq
    exact wpAny_pyIter_list hp.isList ⟨s.heap.objs.size, [s.heap.objs.size], _, _, Hs, rfl, I.kept (t' := s.toks) fun b o => Heap.get?_push_of_some _, turn_list a _, ⟨_, Heap.get?_push_size _ rfl, rfl, rfl⟩, nw, q⟩
  · obtain ⟨its, _, hp, _⟩ := I.tuple hq
    exact wpAny_pyIter_tuple (show s.heap.IsTuple a its.toArray from hp) ⟨s.heap.objs.size, [s.heap.objs.size], _, _, Hs, rfl, I.kept (t' := s.toks) fun b o => Heap.get?_push_of_some _, turn_tuple a _, ⟨_, Heap.get?_push_size _ rfl, rfl, rfl⟩, nw, q⟩
  · obtain ⟨hs, hgd, hx, es, ep, vs, hdt, hsz, kv, hm⟩ := I.frzK hd
    refine iter_keys hs hgd hx hdt (pi_one (tk := s.toks) I _ (turn_keys _ hdt) ⟨_, Heap.get?_push_size _ rfl, rfl, ?_⟩ q)
    rw [hsz] <;> rfl
  · obtain ⟨hs, hgd, hx, es, ep, hdt, hsz, ent⟩ := I.frzT hd
    refine iter_keys hs hgd hx hdt (pi_one (tk := s.toks) I _ (turn_keysT _ hdt) ⟨_, Heap.get?_push_size _ rfl, rfl, ?_⟩ q)
    rw [hsz] <;> rfl
theorem sqL_inj {K : PySem.W.Frag} {H : Hp} {a : Addr} {xs ys : List V} (h1 : SqL K H a xs) (h2 : H a = some (.lst ys)) (hk : True) : Rd H a (.lst xs) → xs = ys := by
  rintro (h | ⟨o, h⟩)
  · rw [h] at h2; cases h2; rfl
  · rw [h] at h2; cases h2
theorem turn_l {Z : Rg} {K : PySem.W.Frag} {G H : Hp} {a : Addr} {xs : List V} {ds : List D} (o : Ok Z G H) (h : SqL K H a xs) (hd : DqAll K G xs ds) : TurnOk Z K (Itl K a) G H ds := by
  intro i
  refine ⟨fun d e => ?_, fun e => ⟨xs, h, ?_⟩⟩
  · obtain ⟨v, e1, e2⟩ := hd.get e
    refine ⟨⟨xs, v, h, e1⟩, fun u H3 q => ?_⟩
    obtain ⟨rfl, f⟩ := q
    have := f xs h
    rw [e1] at this; cases this
    exact ⟨G, .refl, o, e2⟩
  · rw [hd.length]; exact List.getElem?_eq_none_iff.mp e
theorem turn_t {Z : Rg} {K : PySem.W.Frag} {G H : Hp} {a : Addr} {xs : List V} {ds : List D} (o : Ok Z G H) (h : SqT K H a xs) (hd : DqAll K G xs ds) : TurnOk Z K (Itt K a) G H ds := by
  intro i
  refine ⟨fun d e => ?_, fun e => ⟨xs, h, ?_⟩⟩
  · obtain ⟨v, e1, e2⟩ := hd.get e
    refine ⟨⟨xs, v, h, e1⟩, fun u H3 q => ?_⟩
    obtain ⟨rfl, f⟩ := q
    have := f xs h
    rw [e1] at this; cases this
    exact ⟨G, .refl, o, e2⟩
  · rw [hd.length]; exact List.getElem?_eq_none_iff.mp e
theorem dqK_get {K : PySem.W.Frag} {G : Hp} : ∀ {xs : List (Key × V)} {kvs : List (D × D)}, DqK K G xs kvs → xs.length = kvs.length ∧ ∀ (i : Nat) (d : D), (kvs.map Prod.fst)[i]? = some d → ∃ (k : Key) (v : V), xs[i]? = some (k, v) ∧ d = keyD k
  | _, _, .nil => ⟨rfl, fun i d e => by simp at e⟩
  | _, _, .cons (k := k) (v := v) h1 h2 => by
    obtain ⟨q1, q2⟩ := dqK_get h2
    refine ⟨congrArg (· + 1) q1, fun i d e => ?_⟩
    match i with
    | 0 => simp at e; subst e; exact ⟨k, v, rfl, rfl⟩
    | i + 1 =>
      obtain ⟨k', v', e1, e2⟩ := q2 i d (by simpa using e)
      exact ⟨k', v', by simpa using e1, e2⟩
theorem dqT_get {K : PySem.W.Frag} {G : Hp} : ∀ {xs : List (List Key × V)} {kvs : List (D × D)}, DqT K G xs kvs → xs.length = kvs.length ∧ ∀ (i : Nat) (d : D), (kvs.map Prod.fst)[i]? = some d → ∃ (k : List Key) (v : V), xs[i]? = some (k, v) ∧ d = .tuple (k.map keyD)
  | _, _, .nil => ⟨rfl, fun i d e => by simp at e⟩
  | _, _, .cons (k := k) (v := v) h1 h2 => by
    obtain ⟨q1, q2⟩ := dqT_get h2
    refine ⟨congrArg (· + 1) q1, fun i d e => ?_⟩
    match i with
    | 0 => simp at e; subst e; exact ⟨k, v, rfl, rfl⟩
    | i + 1 =>
      obtain ⟨k', v', e1, e2⟩ := q2 i d (by simpa using e)
      exact ⟨k', v', by simpa using e1, e2⟩
theorem dq_kV {K : PySem.W.Frag} {G : Hp} (k : Key) : Dq K G (kV k) (keyD k) := by
  cases k with
  | inl i => exact .int i
  | inr x => exact .str x
theorem dq_kVs {K : PySem.W.Frag} {G : Hp} : ∀ ks : List Key, DqAll K G (ks.map kV) (ks.map keyD)
  | [] => .nil
  | k :: ks => .cons (dq_kV k) (dq_kVs ks)
theorem turn_k {Z : Rg} {K : PySem.W.Frag} {G H : Hp} {a : Addr} {ob : Obj} {xs : List (Key × V)} {kvs : List (D × D)} (o : Ok Z G H) (h : H a = some (.frz ob (.dK xs))) (hd : DqK K G xs kvs) : TurnOk Z K (Itk a ob xs) G H (kvs.map Prod.fst) := by
  intro i
  obtain ⟨hl, hg⟩ := dqK_get hd
  refine ⟨fun d e => ?_, fun e => ⟨h, ?_⟩⟩
  · obtain ⟨k, v, e1, rfl⟩ := hg i d e
    refine ⟨⟨h, (List.getElem?_eq_some_iff.mp e1).1⟩, fun u H3 q => ?_⟩
    obtain ⟨rfl, k', v', e2, rfl⟩ := q
    rw [e1] at e2
    cases e2
    exact ⟨G, .refl, o, dq_kV k⟩
  · have q := List.getElem?_eq_none_iff.mp e
    rw [List.length_map] at q
    omega
/-- a key's own tuple is looked at -/
theorem Ok.seen {Z : Rg} {G H : Hp} {q : Addr} {xs : List V} (o : Ok Z G H) (h : H q = some (.tup xs)) : ∃ G3, Ext Z G H G3 H ∧ Ok Z G3 H ∧ G3 q = some (.tup xs) := by
  have nz : ¬ Z.has q := fun z => by
    obtain ⟨ys, e⟩ := Z.lst o.z q z
    rw [h] at e
    cases e
  cases r : G q with
  | some u =>
    have e := o.s q u r
    rw [h] at e
    cases e
    exact ⟨G, .refl, o, r⟩
  | none =>
    refine ⟨upd G q (.tup xs), ⟨fun b u e => by rw [upd_ne (ne_of_none e r)]; exact e, fun _ _ _ e => e, fun b e => ?_, fun _ e => e⟩, ⟨fun b u e => ?_, o.z, fun b hb => ?_⟩, upd_same⟩
    · by_cases hb : b = q
      · subst hb; exact .inr (.inr ⟨nz, xs, h⟩)
      · rw [upd_ne hb] at e; exact .inl e
    · by_cases hb : b = q
      · subst hb; rw [upd_same] at e; rw [h]; exact e
      · rw [upd_ne hb] at e; exact o.s b u e
    · rw [upd_ne (fun z : b = q => nz (z ▸ hb))]; exact o.d b hb
theorem turn_kt {Z : Rg} {K : PySem.W.Frag} {G H : Hp} {a : Addr} {ob : Obj} {xs : List (List Key × V)} {kvs : List (D × D)} (o : Ok Z G H) (h : H a = some (.frz ob (.dT xs))) (hd : DqT K G xs kvs) : TurnOk Z K (Itkt a ob xs) G H (kvs.map Prod.fst) := by
  intro i
  obtain ⟨hl, hg⟩ := dqT_get hd
  refine ⟨fun d e => ?_, fun e => ⟨h, ?_⟩⟩
  · obtain ⟨k, v, e1, rfl⟩ := hg i d e
    refine ⟨⟨h, (List.getElem?_eq_some_iff.mp e1).1⟩, fun u H3 q => ?_⟩
    obtain ⟨rfl, k', v', b, e2, rfl, hb⟩ := q
    rw [e1] at e2
    cases e2
    obtain ⟨G3, x1, x2, x3⟩ := o.seen hb
    exact ⟨G3, x1, x2, .tup x3 (dq_kVs k)⟩
  · have q := List.getElem?_eq_none_iff.mp e
    rw [List.length_map] at q
    omega
def τIter (a : DT) : DTI := fun x ρ Q => a x ρ fun s => match s.fz with
  | .dat (.list ds) => Q ds
  | .dat (.tuple ds) => Q ds
  | .dat (.dict kvs) => Q (kvs.map Prod.fst)
  | _ => False
def τIterB (a : DT) : DTI := fun x ρ Q => a x ρ fun s => match s.d with
  | .list ds => Q ds
  | .tuple ds => Q ds
  | _ => False
theorem di_seq (a : DE K mg W X e te τ) (hK : X.K = K := by rfl) : DI K mg W X tg e (iSeq K te) (τIter τ) := by
  subst hK
  refine ⟨pi_seq a.pe, fun Z G0 H0 x hx σ ρ G H Q Qd R h k => ?_⟩
  refine a.sem Z G0 H0 x hx σ ρ G H _ _ R h fun s v G1 H1 g1 h1 => ?_
  obtain ⟨G2, g2, _⟩ := g1.fz
  split at h1
  · rename_i ds e2
    have sv := g2.sv
    rw [e2] at sv
    have sv' : Dq X.K G2 v (.list ds) := sv
    cases sv' with
    | lst q1 q2 =>
      refine ⟨_, rfl, .inl ⟨⟨_, sqL_mono g2.ok.s q1⟩, k ds _ G2 H1 g2.ext g2.ok (fun G3 H3 o3 e3 => turn_l o3 (sqL_mono o3.s (sqL_mono e3 q1)) (dpAll_mono e3 ds _ q2)) h1⟩⟩
  · rename_i ds e2
    have sv := g2.sv
    rw [e2] at sv
    have sv' : Dq X.K G2 v (.tuple ds) := sv
    cases sv' with
    | tup q1 q2 =>
      refine ⟨_, rfl, .inr (.inl ⟨⟨_, .inl (.inl (g2.ok.s _ _ q1))⟩, k ds _ G2 H1 g2.ext g2.ok (fun G3 H3 o3 e3 => turn_t o3 (.inl (.inl (o3.s _ _ (e3 _ _ q1)))) (dpAll_mono e3 ds _ q2)) h1⟩)⟩
  · rename_i kvs e2
    have sv := g2.sv
    rw [e2] at sv
    have sv' : Dq X.K G2 v (.dict kvs) := sv
    cases sv' with
    | @dkk a ob xs _ q1 q2 =>
      exact ⟨_, rfl, .inr (.inr ⟨ob, .inl ⟨xs, g2.ok.s _ _ q1, k _ _ G2 H1 g2.ext g2.ok (fun G3 H3 o3 e3 => turn_k o3 (o3.s _ _ (e3 _ _ q1)) (dqK_mono e3 _ _ q2)) h1⟩⟩)⟩
    | @dkt a ob xs _ q1 q2 =>
      exact ⟨_, rfl, .inr (.inr ⟨ob, .inr ⟨xs, g2.ok.s _ _ q1, k _ _ G2 H1 g2.ext g2.ok (fun G3 H3 o3 e3 => turn_kt o3 (o3.s _ _ (e3 _ _ q1)) (dqT_mono e3 _ _ q2)) h1⟩⟩)⟩
  · exact h1.elim
theorem db_seq (a : DE K mg W X e te τ) (hK : X.K = K := by rfl) : DB K mg W X tg e (iSeq K te) (τIterB τ) := by
  subst hK
  refine ⟨pi_seq a.pe, fun Z G0 H0 x hx σ ρ G H Q Qd R h k => ?_⟩
  refine a.sem Z G0 H0 x hx σ ρ G H _ _ R h fun s v G1 H1 g1 h1 => ?_
  split at h1
  · rename_i ds e2
    cases s with
    | dat d =>
      have e2' : d = .list ds := e2
      subst e2'
      have sv' : Dq X.K G1 v (.list ds) := g1.sv
      cases sv' with
      | lst q1 q2 =>
        exact ⟨_, rfl, .inl ⟨⟨_, sqL_mono g1.ok.s q1⟩, k ds _ G1 H1 g1.ext g1.ok (fun G3 H3 e3 o3 => turn_l o3 (sqL_mono o3.s (sqL_mono e3.g q1)) (dpAll_mono e3.g ds _ q2)) h1⟩⟩
    | own es =>
      have e2' : es = ds := by injection (show PyData.list es = .list ds from e2)
      subst e2'
      obtain ⟨l, xs, rfl, q1, q2, q3, q4⟩ := g1.sv
      exact ⟨_, rfl, .inl ⟨⟨_, SqL.of q1⟩, k es _ G1 H1 g1.ext g1.ok (fun G3 H3 e3 o3 => turn_l o3 (SqL.of (e3.h _ _ q4 q1)) (dpAll_mono e3.g es _ q2)) h1⟩⟩
    | bor es =>
      have e2' : es = ds := by injection (show PyData.list es = .list ds from e2)
      subst e2'
      obtain ⟨l, xs, rfl, q1, q2, q3, q4⟩ := g1.sv
      exact ⟨_, rfl, .inl ⟨⟨_, SqL.of q1⟩, k es _ G1 H1 g1.ext g1.ok (fun G3 H3 e3 o3 => turn_l o3 (SqL.of (e3.h _ _ q4 q1)) (dpAll_mono e3.g es _ q2)) h1⟩⟩
    | tok => cases (show PyData.none = .list ds from e2)
    | dct t kvs => cases (show PyData.dict kvs = .list ds from e2)
  · rename_i ds e2
    obtain ⟨a, xs, rfl, q1, q2⟩ := g1.sv.tup g1.ok e2
    exact ⟨_, rfl, .inr (.inl ⟨⟨_, sqT_mono g1.ok.s q1⟩, k ds _ G1 H1 g1.ext g1.ok (fun G3 H3 e3 o3 => turn_t o3 (sqT_mono o3.s (sqT_mono e3.g q1)) (dpAll_mono e3.g ds _ q2)) h1⟩)⟩
  · exact h1.elim
/-- lo, lo + 1, .. -/
def rgD (lo : Int) (n : Nat) : List D := (List.range n).map fun k => PyData.int (lo + (k : Nat))
theorem turn_r {Z : Rg} {K : PySem.W.Frag} {G H : Hp} {lo : Int} {n : Nat} (o : Ok Z G H) : TurnOk Z K (Itr lo n) G H (rgD lo n) := by
  intro i
  unfold rgD
  rw [List.getElem?_map]
  refine ⟨fun d e => ?_, fun e => ?_⟩
  · by_cases hi : i < n
    · refine ⟨hi, fun u H3 q => ?_⟩
      obtain ⟨rfl, rfl⟩ := q
      rw [List.getElem?_range hi] at e
      have e' : PyData.int (lo + (i : Nat)) = d := Option.some.inj e
      subst e'
      exact ⟨G, .refl, o, .int _⟩
    · rw [List.getElem?_eq_none (by rw [List.length_range]; omega)] at e; cases e
  · by_cases hi : i < n
    · rw [List.getElem?_range hi] at e; cases e
    · exact Nat.le_of_not_lt hi
variable {ta : TA} {υ : DTA} {a b : Expr} {p pos : Pos}
def τRng1 (a : DTA) : DTI := fun x ρ Q => a x ρ fun ss => match ss with
  | [.dat (.int j)] => (-(2 ^ 62) ≤ j ∧ j < 2 ^ 62) ∧ Q (rgD 0 j.toNat)
  | _ => False
def τRng2 (a : DTA) : DTI := fun x ρ Q => a x ρ fun ss => match ss with
  | [.dat (.int i), .dat (.int j)] => (-(2 ^ 62) ≤ i ∧ i < 2 ^ 62 ∧ -(2 ^ 62) ≤ j ∧ j < 2 ^ 62) ∧ Q (rgD i (j - i).toNat)
  | _ => False
theorem di_rng1 (hg : Gl X "range") (hm : X.mg "range" = none) (ha : DA K mg W X [a] ta υ) (hs : starEach [a] X.env = [(false, eval a X.env)] := by rfl) : DI K mg W X tg (.Call (.Name "range" p) [a] [] pos) (iRng1 ta) (τRng1 υ) := by
  refine ⟨pi_range1 hg hm ha.pe hs, fun Z G0 H0 x hx σ ρ G H Q Qd R h k => ?_⟩
  refine ha.sem Z G0 H0 x hx σ ρ G H _ _ R h fun ss vs G1 H1 e1 o1 hv h1 => ?_
  split at h1
  · obtain ⟨v, rfl, q⟩ := svs1 hv
    exact ⟨_, by rw [q.int], h1.1.1, h1.1.2, k _ _ G1 H1 e1 o1 (fun G3 H3 o3 _ => turn_r o3) h1.2⟩
  · exact h1.elim
theorem di_rng2 (hg : Gl X "range") (hm : X.mg "range" = none) (ha : DA K mg W X [a, b] ta υ) (hs : starEach [a, b] X.env = [(false, eval a X.env), (false, eval b X.env)] := by rfl) (hs2 : starEach [b] X.env = [(false, eval b X.env)] := by rfl) :
    DI K mg W X tg (.Call (.Name "range" p) [a, b] [] pos) (iRng2 ta) (τRng2 υ) := by
  refine ⟨pi_range2 hg hm ha.pe hs hs2, fun Z G0 H0 x hx σ ρ G H Q Qd R h k => ?_⟩
  refine ha.sem Z G0 H0 x hx σ ρ G H _ _ R h fun ss vs G1 H1 e1 o1 hv h1 => ?_
  split at h1
  · obtain ⟨v, u, rfl, q, q'⟩ := svs2 hv
    exact ⟨_, _, by rw [q.int, q'.int], h1.1, k _ _ G1 H1 e1 o1 (fun G3 H3 o3 _ => turn_r o3) h1.2⟩
  · exact h1.elim
end

/-! ### targets -/
abbrev DTG := S → DEnv → (DEnv → Prop) → Prop
def SemG (K : PySem.W.Frag) (g : TG) (γ : DTG) : Prop :=
  ∀ (Z : Rg) (G0 H0 G H G1 H1 : Hp) (σ : L2.St) (ρ : DEnv) (v : V) (s : S) (Q : L2.St → Hp → Prop) (Qd : DEnv → Prop), SRel Z K G0 H0 G H σ ρ → Got Z K G H G1 H1 v s → γ s ρ Qd →
    (∀ σ' ρ' G' H', Ext Z G1 H1 G' H' → SRel Z K G0 H0 G' H' σ' ρ' → Qd ρ' → Q σ' H') → g v σ H1 Q
structure DG (K : PySem.W.Frag) (X : Cx) (tg : Expr) (g : TG) (γ : DTG) : Prop where
  pe : PG X tg g
  sem : SemG K g γ
/-- only these slots are stored -/
def GW (g : TG) (vs : List Nat) : Prop := ∀ v σ H Q, g v σ H Q → g v σ H fun σ' H' => wipe σ' vs = wipe σ vs ∧ Q σ' H'
section
variable {K : PySem.W.Frag} {X : Cx} {pos : Pos}
def γName (i : Nat) : DTG := fun s ρ Q => match s with
  | .bor _ => False
  | s => Q (stv ρ i (some s))
theorem sem_gname {K : PySem.W.Frag} (i : Nat) : SemG K (gName i) (γName i) := by
  intro Z G0 H0 G H G1 H1 σ ρ v s Q Qd R g h k
  cases s with
  | bor ds => exact h.elim
  | dat d => exact k _ _ G1 H1 .refl (R.put g fun _ e => by cases e) h
  | own ds => exact k _ _ G1 H1 .refl (R.put g fun _ e => by cases e) h
  | tok => exact k _ _ G1 H1 .refl (R.put g fun _ e => by cases e) h
  | dct t kvs => exact k _ _ G1 H1 .refl (R.put g fun _ e => by cases e) h
theorem dg_name {i : Nat} {x : Str} (hN : X.N.Nodup) (hi : X.N[i]? = some x) (hx : Loc X.env.scope x) (hf : X.fn x = true ∨ X.env.scope.names.lookup x = some .local := by first | exact .inl rfl | exact .inr rfl | assumption) : DG K X (.Name x pos) (gName i) (γName i) :=
  ⟨pg_name hN hi hx hf, sem_gname i⟩
theorem wipe_len (σ : L2.St) : ∀ vs : List Nat, (wipe σ vs).length = σ.length := wipe_length σ
theorem wipe_get (σ : L2.St) : ∀ (vs : List Nat) (j : Nat), (wipe σ vs)[j]? = if j ∈ vs then (σ[j]?).map (fun _ => none) else σ[j]?
  | [], j => by simp [wipe]
  | v :: vs, j => by
    unfold wipe
    rw [List.getElem?_set, wipe_len, wipe_get σ vs j]
    by_cases h : v = j
    · subst h
      by_cases hl : v < σ.length
      · simp [hl]
      · simp [List.getElem?_eq_none (show σ.length ≤ v by omega), hl]
    · have h' : ¬ j = v := fun e => h e.symm
      simp [h, h']
theorem wipe_set {σ : L2.St} {i : Nat} {x : Option V} {vs : List Nat} (h : i ∈ vs) : wipe (σ.set i x) vs = wipe σ vs := by
  apply List.ext_getElem?
  intro j
  rw [wipe_get, wipe_get, List.getElem?_set]
  by_cases hj : j ∈ vs
  · rw [if_pos hj, if_pos hj]
    by_cases e : i = j
    · subst e
      by_cases hl : i < σ.length
      · simp [hl]
      · simp [List.getElem?_eq_none (show σ.length ≤ i by omega), hl]
    · simp [e]
  · rw [if_neg hj, if_neg hj]
    have e : ¬ i = j := fun e => hj (e ▸ h)
    simp [e]
theorem wipe_wipe {σ : L2.St} {vs : List Nat} : wipe (wipe σ vs) vs = wipe σ vs := by
  apply List.ext_getElem?
  intro j
  rw [wipe_get, wipe_get]
  by_cases hj : j ∈ vs
  · rw [if_pos hj, if_pos hj]
    cases σ[j]? <;> rfl
  · simp [hj]
theorem gw_name {i : Nat} {vs : List Nat} (h : i ∈ vs) : GW (gName i) vs := fun _ _ _ _ q => ⟨wipe_set h, q⟩
def GWs (g : TGs) (vs : List Nat) : Prop := ∀ us σ H Q, g us σ H Q → g us σ H fun σ' H' => wipe σ' vs = wipe σ vs ∧ Q σ' H'
theorem gw_nil {vs : List Nat} : GWs gNil vs := fun _ _ _ _ q => ⟨q.1, rfl, q.2⟩
/-- a store's end may be weakened -/
def GM (g : TG) : Prop := ∀ v σ H (Q Q' : L2.St → Hp → Prop), g v σ H Q → (∀ σ' H', Q σ' H' → Q' σ' H') → g v σ H Q'
def GMs (g : TGs) : Prop := ∀ v σ H (Q Q' : L2.St → Hp → Prop), g v σ H Q → (∀ σ' H', Q σ' H' → Q' σ' H') → g v σ H Q'
theorem gm_name {i : Nat} : GM (gName i) := fun _ _ _ _ _ h f => f _ _ h
theorem gm_nil : GMs gNil := fun _ _ _ _ _ h f => ⟨h.1, f _ _ h.2⟩
theorem gm_cons {g : TG} {u : TGs} (a : GM g) (b : GMs u) : GMs (gCons g u) := fun _ _ _ _ _ ⟨v, r, e, h⟩ f => ⟨v, r, e, a _ _ _ _ _ h fun _ _ q => b _ _ _ _ _ q f⟩
theorem gm_tup {K : PySem.W.Frag} {n : Nat} {u : TGs} (b : GMs u) : GM (gTup K n u) := fun _ _ _ _ _ ⟨v, r, e, h1, h2, h⟩ f => ⟨v, r, e, h1, h2, b _ _ _ _ _ h f⟩
theorem gw_cons {g : TG} {u : TGs} {vs : List Nat} (m : GM g) (a : GW g vs) (mu : GMs u) (b : GWs u vs) : GWs (gCons g u) vs := fun us σ H Q ⟨v, r, e, h⟩ =>
  ⟨v, r, e, m _ _ _ _ _ (a _ _ _ _ h) fun σ1 H1 ⟨e1, q⟩ => mu _ _ _ _ _ (b _ _ _ _ q) fun σ2 H2 ⟨e2, q2⟩ => ⟨e2.trans e1, q2⟩⟩
theorem gw_tup {K : PySem.W.Frag} {n : Nat} {u : TGs} {vs : List Nat} (b : GWs u vs) : GW (gTup K n u) vs := fun _ σ H Q ⟨a, xs, e, h1, h2, h⟩ => ⟨a, xs, e, h1, h2, b _ _ _ _ h⟩
/-! a, b = .. : the items of a tuple -/
abbrev DTGs := List D → DEnv → (DEnv → Prop) → Prop
def SemGs (K : PySem.W.Frag) (g : TGs) (γ : DTGs) : Prop :=
  ∀ (Z : Rg) (G0 H0 G H : Hp) (σ : L2.St) (ρ : DEnv) (vs : List V) (ds : List D) (Q : L2.St → Hp → Prop) (Qd : DEnv → Prop), SRel Z K G0 H0 G H σ ρ → DqAll K G vs ds → γ ds ρ Qd →
    (∀ σ' ρ' G' H', Ext Z G H G' H' → SRel Z K G0 H0 G' H' σ' ρ' → Qd ρ' → Q σ' H') → g vs σ H Q
structure DGs (K : PySem.W.Frag) (X : Cx) (ts : List Expr) (g : TGs) (γ : DTGs) : Prop where
  pe : PGs X ts g
  sem : SemGs K g γ
def γNil : DTGs := fun ds ρ Q => match ds with | [] => Q ρ | _ => False
def γCons (a : DTG) (b : DTGs) : DTGs := fun ds ρ Q => match ds with | d :: r => a (.dat d) ρ fun ρ1 => b r ρ1 Q | _ => False
theorem dgs_nil : DGs K X [] gNil γNil := by
  refine ⟨pgs_nil, fun Z G0 H0 G H σ ρ vs ds Q Qd R hd h k => ?_⟩
  cases hd with
  | nil => exact ⟨rfl, k σ ρ G H .refl R h⟩
  | cons _ _ => exact h.elim
theorem dgs_cons {e : Expr} {es : List Expr} {g : TG} {u : TGs} {γ : DTG} {δ : DTGs} (a : DG K X e g γ) (b : DGs K X es u δ)
    (hs : (assignEach (e :: es) X.env).map (·.2) = assign e X.env :: (assignEach es X.env).map (·.2) := by rfl) : DGs K X (e :: es) (gCons g u) (γCons γ δ) := by
  refine ⟨pgs_cons a.pe b.pe hs, fun Z G0 H0 G H σ ρ vs ds Q Qd R hd h k => ?_⟩
  cases hd with
  | nil => exact h.elim
  | cons h1 h2 =>
    refine ⟨_, _, rfl, ?_⟩
    refine a.sem Z G0 H0 G H G H σ ρ _ _ _ _ R (.here R.ok h1) h fun σ1 ρ1 G1 H1 e1 R1 q1 => ?_
    exact b.sem Z G0 H0 G1 H1 σ1 ρ1 _ _ _ _ R1 (dpAll_mono e1.g _ _ h2) q1 fun σ2 ρ2 G2 H2 e2 R2 q2 => k σ2 ρ2 G2 H2 (e1.trans e2) R2 q2
def γTup (n : Nat) (a : DTGs) : DTG := fun s ρ Q => match s with | .dat (.tuple ds) => ds.length = n ∧ a ds ρ Q | _ => False
theorem dg_tup {es : List Expr} {k : Nat} {u : TGs} {δ : DTGs} {n : Nat} (hc : X.calm = true) (b : DGs K X es u δ)
    (hn : (assignEach es X.env).length = n := by rfl) (hst : (assignEach es X.env).findIdx? (·.1) = none := by rfl) (hK : X.K = K := by rfl) : DG K X (.Tuple es k pos) (gTup K n u) (γTup n δ) := by
  subst hK
  refine ⟨pg_tup hc b.pe hn hst, fun Z G0 H0 G H G1 H1 σ ρ v s Q Qd R g h k => ?_⟩
  unfold γTup at h
  split at h
  · rename_i ds
    obtain ⟨a, xs, rfl, q1, q2⟩ := g.sv.tup g.ok rfl
    refine ⟨a, xs, rfl, sqT_mono g.ok.s q1, by rw [q2.length]; exact h.1, ?_⟩
    exact b.sem Z G0 H0 G1 H1 σ ρ xs ds _ _ (R.mono g.ext g.ok) q2 h.2 k
  · exact h.elim
end

/-! ### list comprehensions -/
def wipeE (ρ : DEnv) : List Nat → DEnv
  | [] => ρ
  | v :: vs => stv (wipeE ρ vs) v none
theorem SRel.wipe {Z : Rg} {K : PySem.W.Frag} {G0 H0 G H : Hp} {σ : L2.St} {ρ : DEnv} (r : SRel Z K G0 H0 G H σ ρ) : ∀ vs : List Nat, SRel Z K G0 H0 G H (L2.wipe σ vs) (wipeE ρ vs)
  | [] => r
  | v :: vs => (SRel.wipe r vs).unset v
def lcL (γ : DTG) (τt : DTT) (τe : DT) (ρ : DEnv) : List D → List D → (List D → Prop) → Prop
  | [], acc, Q => Q acc
  | d :: r, acc, Q => γ (.dat d) ρ fun ρ1 => τt x0 ρ1 fun b => if b = true then τe x0 ρ1 fun s => match s.fz with
      | .dat e => acc.length < sizeLine ∧ lcL γ τt τe ρ r (acc ++ [e]) Q
      | _ => False
    else lcL γ τt τe ρ r acc Q
def τLc (ι : DTI) (γ : DTG) (τt : DTT) (τe : DT) (vs : List Nat) : DT := fun x ρ Q => ι x ρ fun items => lcL γ τt τe (wipeE ρ vs) items [] fun ds => Q (.own ds)
def WF : WX := fun _ _ _ _ => False
structure DTs (K : PySem.W.Frag) (mg : Str → Option Value) (W : WX) (X : Cx) (ifs : List Expr) (t : TT) (τ : DTT) : Prop where
  pe : PTs X ifs t
  sem : SemT K mg W t τ
def τYes : DTT := fun _ _ Q => Q true
section
variable {K : PySem.W.Frag} {mg : Str → Option Value} {W : WX} {X : Cx}
theorem dts_nil : DTs K mg W X [] tYes τYes := ⟨pts_nil, fun _ _ _ _ _ _ _ G H _ _ r q k => k true G H .refl r.ok q⟩
theorem dts_one {c : Expr} {t : TT} {τ : DTT} (a : DC K mg W X c t τ) : DTs K mg W X [c] t τ := ⟨pts_one a.pe, a.sem⟩
theorem Ok.wr {Z : Rg} {G H : Hp} {l : Addr} {u : HO} (o : Ok Z G H) (h1 : G l = none) (h2 : ¬ Z.has l) : Ok Z G (upd H l u) :=
  ⟨fun b w e => by rw [upd_ne (ne_of_none e h1)]; exact o.s b w e, Z.loc o.z fun b hb => by rw [upd_ne (fun z : b = l => h2 (z ▸ hb))], o.d⟩
theorem Ext.wr {Z : Rg} {G0 H0 G H : Hp} {l : Addr} {u : HO} (e : Ext Z G0 H0 G H) (h : H0 l = none) : Ext Z G0 H0 G (upd H l u) :=
  ⟨e.g, fun b w z q => by rw [upd_ne (ne_of_none q h)]; exact e.h b w z q, e.n, fun b q => by
    by_cases hb : b = l
    · subst hb; exact absurd h q
    · rw [upd_ne hb]; exact e.t b q⟩
theorem sem_lc {K : PySem.W.Frag} {mg : Str → Option Value} {wi : TI} {g : TG} {tt : TT} {te : TE} {ι : DTI} {γ : DTG} {τt : DTT} {τe : DT} {vs : List Nat} (hi : SemB K mg W wi ι) (hg : SemG K g γ) (gm : GM g) (gw : GW g vs) (ht : SemT K mg WF tt τt) (he : Sem K mg WF te τe) :
    Sem K mg W (tLc wi g tt te vs) (τLc ι γ τt τe vs) := by
  intro Z G0 H0 x hx σ ρ G H Q Qd R h k
  refine hi Z G0 H0 x hx σ ρ G H _ _ R h fun items J G1 H1 e1 o1 it h1 => ?_
  intro Da hD
  have hd : ¬ Z.has Da := fun z => Z.there o1.z Da z hD
  have gD : G1 Da = none := by
    cases r : G1 Da with
    | none => rfl
    | some w => rw [o1.s Da w r] at hD; cases hD
  refine ⟨fun i m H2 => m = items.length - i ∧ i ≤ items.length ∧ ∃ G2 acc, Ext Z G1 H1 G2 H2 ∧ Ok Z G2 H2 ∧ SV Z K G2 H2 (.ref Da) (.own acc) ∧ lcL γ τt τe (wipeE ρ vs) (items.drop i) acc fun ds => Qd (.own ds),
    ⟨items.length, by omega, Nat.zero_le _, G1, [], (Ext.refl.wr hD), o1.wr gD hd, ⟨Da, [], rfl, upd_same, .nil, gD, hd⟩, h1⟩, ?_⟩
  rintro i m H2 ⟨rfl, hi2, G2, acc, e2, o2, sv, hl⟩
  have tn := it G2 H2 e2 o2 i
  cases q : items[i]? with
  | none =>
    have hlen := List.getElem?_eq_none_iff.mp q
    rw [List.drop_eq_nil_of_le hlen] at hl
    refine .inl ⟨tn.2 q, k (.own acc) _ G2 H2 ⟨e1.trans e2, o2, sv, fun _ _ l el => ?_, fun _ _ e => (by cases e)⟩ hl⟩
    cases el
    cases r : H Da with
    | none => rfl
    | some w => exact absurd hD (e1.t Da (by rw [r]; intro z; cases z))
  | some d =>
    obtain ⟨hlt, hd2⟩ := List.getElem?_eq_some_iff.mp q
    have hdr : items.drop i = d :: items.drop (i + 1) := by rw [List.drop_eq_getElem_cons hlt, hd2]
    rw [hdr] at hl
    obtain ⟨go, yl⟩ := tn.1 d q
    refine .inr ⟨go, fun H' => i + 1 ≤ items.length ∧ ∃ G3 acc', Ext Z G1 H1 G3 H' ∧ Ok Z G3 H' ∧ SV Z K G3 H' (.ref Da) (.own acc') ∧ lcL γ τt τe (wipeE ρ vs) (items.drop (i + 1)) acc' fun ds => Qd (.own ds),
      fun H' q' => ⟨items.length - (i + 1), by omega, rfl, q'⟩, fun v H3 y => ?_⟩
    obtain ⟨G3, e3, o3, d3⟩ := yl v H3 y
    have e13 := e2.trans e3
    have R3 := ((R.mono (e1.trans e13) o3)).wipe vs
    refine gm _ _ _ _ _ (gw _ _ _ _ (hg Z G0 H0 G3 H3 G3 H3 _ _ v (.dat d) (fun σ2 H4 => tt σ2 H4 fun b H5 => if b = true then te σ2 H5 fun y H6 => ∃ acc, H6 Da = some (.lst acc) ∧ acc.length < sizeLine ∧ (i + 1 ≤ items.length ∧ ∃ G3 acc', Ext Z G1 H1 G3 (upd H6 Da (.lst (acc ++ [y]))) ∧ Ok Z G3 (upd H6 Da (.lst (acc ++ [y]))) ∧ SV Z K G3 (upd H6 Da (.lst (acc ++ [y]))) (.ref Da) (.own acc') ∧ lcL γ τt τe (wipeE ρ vs) (items.drop (i + 1)) acc' fun ds => Qd (.own ds))
        else i + 1 ≤ items.length ∧ ∃ G3 acc', Ext Z G1 H1 G3 H5 ∧ Ok Z G3 H5 ∧ SV Z K G3 H5 (.ref Da) (.own acc') ∧ lcL γ τt τe (wipeE ρ vs) (items.drop (i + 1)) acc' fun ds => Qd (.own ds)) _ R3 (.here o3 d3) hl fun σ4 ρ4 G4 H4 e4 R4 h4 => ?_)) fun σ' H' ⟨w1, q'⟩ => ⟨w1.trans wipe_wipe, q'⟩
    refine ht Z G0 H0 x0 XOk.no σ4 ρ4 G4 H4 _ _ R4 h4 fun b G5 H5 e5 o5 h5 => ?_
    have e15 := (e13.trans e4).trans e5
    have sv5 := ((sv.mono e3).mono e4).mono e5
    by_cases hb : b = true
    · rw [if_pos hb] at h5 ⊢
      refine he Z G0 H0 x0 XOk.no σ4 ρ4 G5 H5 _ _ (R4.mono e5 o5) h5 fun s6 v6 G6 H6 g6 h6 => ?_
      obtain ⟨G7, g7, _⟩ := g6.fz
      have e17 := e15.trans g7.ext
      split at h6
      · rename_i e es
        have sv7 := sv5.mono g7.ext
        obtain ⟨l, xs, el, q1, q2, q3, q4⟩ := sv7
        cases el
        have d7 := g7.sv
        rw [es] at d7
        have d7' : Dq K G7 v6 e := d7
        refine ⟨xs, q1, by rw [q2.length]; exact h6.1, hlt, G7, acc ++ [e], e17.wr hD, g7.ok.wr q3 q4, ⟨Da, _, rfl, upd_same, q2.append (.cons d7' .nil), q3, q4⟩, h6.2⟩
      · exact h6.elim
    · rw [if_neg hb] at h5 ⊢
      exact ⟨hlt, G5, acc, e15, o5, sv5, h5⟩
variable {elt tg iter : Expr} {ifs : List Expr} {scope : Scope} {own : List (Str × Nat)} {pos : Pos} {wi : TI} {g : TG} {tt : TT} {te : TE} {ι : DTI} {γ : DTG} {τt : DTT} {τe : DT}
theorem de_lc (hc : X.calm = true) (hN : X.N.Nodup) (hi : DB K mg W X tg iter wi ι) (ok : BlkOk X.N X.env.scope scope own)
    (hg : ∀ (s : Shared) (H : Hp) (C : Addr) (cl : List (Str × Addr)) (fp : List Addr), DG K (X.blk s H scope (compEnvC scope cl C X.env) fp) tg g γ) (gm : GM g) (gw : GW g (own.map (·.2)))
    (ht : ∀ (s : Shared) (H : Hp) (C : Addr) (cl : List (Str × Addr)) (fp : List Addr), DTs K mg WF (X.blk s H scope (compEnvC scope cl C X.env) fp) ifs tt τt)
    (he : ∀ (s : Shared) (H : Hp) (C : Addr) (cl : List (Str × Addr)) (fp : List Addr), DE K mg WF (X.blk s H scope (compEnvC scope cl C X.env) fp) elt te τe) (hs : ∀ x, foldedSetIterable iter X.env x = pure x := by intro _; rfl) :
    DE K mg W X (.ListComp elt [⟨tg, iter, ifs, 0⟩] scope pos) (tLc wi g tt te (own.map (·.2))) (τLc ι γ τt τe (own.map (·.2))) :=
  ⟨pe_lc hc hN hi.pe ok (fun s H C cl fp => (hg s H C cl fp).pe) (fun s H C cl fp => (ht s H C cl fp).pe) (fun s H C cl fp => (he s H C cl fp).pe) hs,
    sem_lc hi.sem (hg X.s_0 X.H_0 0 [] []).sem gm gw (ht X.s_0 X.H_0 0 [] []).sem (he X.s_0 X.H_0 0 [] []).sem⟩
end
end DL

set_option Elab.async false
set_option linter.all false
set_option maxRecDepth 100000
set_option maxHeartbeats 4000000
/-! DL5: statements, defs, calls. -/
namespace DL
open PySem PySem.Spec PyProof.Rows L2

structure DEnds where
  nx : DEnv → Prop
  rt : S → Prop
  bk : DEnv → Prop := fun _ => False
  ct : DEnv → Prop := fun _ => False
structure EndsOk (Z : Rg) (K : PySem.W.Frag) (G0 H0 : Hp) (E : Ends) (M : DEnds) : Prop where
  nx : ∀ σ ρ G H, SRel Z K G0 H0 G H σ ρ → M.nx ρ → E.nx σ H
  rt : ∀ s v G H, Got Z K G0 H0 G H v s → (∀ ds, s ≠ .bor ds) → M.rt s → E.rt v H
  bk : ∀ σ ρ G H, SRel Z K G0 H0 G H σ ρ → M.bk ρ → E.bk σ H
  ct : ∀ σ ρ G H, SRel Z K G0 H0 G H σ ρ → M.ct ρ → E.ct σ H
abbrev DTS := Xn → DEnds → DEnv → Prop
def SemS (K : PySem.W.Frag) (mg : Str → Option Value) (W : WX) (t : TS) (τ : DTS) : Prop :=
  ∀ (Z : Rg) (G0 H0 : Hp) (x : Xn), XOk Z K mg G0 H0 W x → ∀ (E : Ends) (M : DEnds), EndsOk Z K G0 H0 E M → ∀ (σ : L2.St) (ρ : DEnv) (G H : Hp), SRel Z K G0 H0 G H σ ρ → τ x M ρ → t E σ H
structure DS (K : PySem.W.Frag) (mg : Str → Option Value) (W : WX) (X : Cx) (s : Stmt) (t : TS) (τ : DTS) : Prop where
  pe : PS X s t
  sem : SemS K mg W t τ
structure DSs (K : PySem.W.Frag) (mg : Str → Option Value) (W : WX) (X : Cx) (s : List Stmt) (t : TS) (τ : DTS) : Prop where
  pe : PSs X s t
  sem : SemS K mg W t τ

section
variable {K : PySem.W.Frag} {mg : Str → Option Value} {W : WX} {X : Cx} {pos : Pos} {st : Stmt} {rest : List Stmt} {t u : TS} {τ υ : DTS}
def τSeq (a b : DTS) : DTS := fun x M ρ => a x { M with nx := b x M } ρ
def τNext : DTS := fun _ M ρ => M.nx ρ
theorem dss_nil : DSs K mg W X [] tNext τNext := ⟨pss_nil, fun _ _ _ _ _ _ _ e σ ρ G H R h => e.nx σ ρ G H R h⟩
theorem dss_cons (a : DS K mg W X st t τ) (b : DSs K mg W X rest u υ) : DSs K mg W X (st :: rest) (tSeq t u) (τSeq τ υ) :=
  ⟨pss_cons a.pe b.pe, fun Z G0 H0 x hx E M e σ ρ G H R h => a.sem Z G0 H0 x hx { E with nx := u E } { M with nx := υ x M } ⟨fun σ ρ G H R h => b.sem Z G0 H0 x hx E M e σ ρ G H R h, e.rt, e.bk, e.ct⟩ σ ρ G H R h⟩
theorem dss_one (a : DS K mg W X st t τ) : DSs K mg W X [st] t τ := ⟨pss_one a.pe, a.sem⟩
def τNever : DTS := fun _ _ _ => False
theorem ds_never : DS K mg W X st tNever τNever := ⟨ps_never, fun _ _ _ _ _ _ _ _ _ _ _ _ _ h => h.elim⟩
theorem dss_never {sts : List Stmt} : DSs K mg W X sts tNever τNever := ⟨pss_never, fun _ _ _ _ _ _ _ _ _ _ _ _ _ h => h.elim⟩
theorem ds_pass : DS K mg W X (.Pass pos) tNext τNext := ⟨ps_pass, fun _ _ _ _ _ _ _ e σ ρ G H R h => e.nx σ ρ G H R h⟩
def τBreak : DTS := fun _ M ρ => M.bk ρ
def τCont : DTS := fun _ M ρ => M.ct ρ
theorem ds_break : DS K mg W X (.Break pos) tBreak τBreak := ⟨ps_break, fun _ _ _ _ _ _ _ e σ ρ G H R h => e.bk σ ρ G H R h⟩
theorem ds_cont : DS K mg W X (.Continue pos) tCont τCont := ⟨ps_continue, fun _ _ _ _ _ _ _ e σ ρ G H R h => e.ct σ ρ G H R h⟩

/-! ### stores -/
variable {e : Expr} {te : TE} {τe : DT}
def τAsg (a : DT) (g : DTG) : DTS := fun x M ρ => a x ρ fun s => g s ρ M.nx
theorem sem_asg {K : PySem.W.Frag} {mg : Str → Option Value} {g : TG} {γ : DTG} (a : Sem K mg W te τe) (b : SemG K g γ) : SemS K mg W (tAsg te g) (τAsg τe γ) := by
  intro Z G0 H0 x hx E M en σ ρ G H R h
  refine a Z G0 H0 x hx σ ρ G H _ _ R h fun s v G1 H1 g1 h1 => ?_
  exact b Z G0 H0 G H G1 H1 σ ρ v s _ _ R g1 h1 fun σ' ρ' G' H' _ R' q => en.nx σ' ρ' G' H' R' q
theorem ds_set {i : Nat} {x : Str} {pos' : Pos} (hN : X.N.Nodup) (hi : X.N[i]? = some x) (hx : Loc X.env.scope x) (a : DE K mg W X e te τe) (hs : swapsWith e (some (.Name x pos')) pos.line X.env = pure false := by rfl)
    (hf : X.fn x = true ∨ X.env.scope.names.lookup x = some .local := by first | exact .inl rfl | exact .inr rfl | assumption) : DS K mg W X (.Assign [.Name x pos'] e pos) (tAsg te (gName i)) (τAsg τe (γName i)) :=
  ⟨ps_set hN hi hx a.pe hs hf, sem_asg a.sem (sem_gname i)⟩
theorem ds_asg {tg : Expr} {g : TG} {γ : DTG} (a : DE K mg W X e te τe) (b : DG K X tg g γ) (hs : swapsWithSole [tg] e pos.line X.env = pure false := by rfl) (hw : swappedStores [tg] e X.env = pure none := by rfl)
    (h1 : (assignEach [tg] X.env).map (·.2) = [assign tg X.env] := by rfl) : DS K mg W X (.Assign [tg] e pos) (tAsg te g) (τAsg τe γ) := ⟨ps_asg a.pe b.pe hs hw h1, sem_asg a.sem b.sem⟩
theorem ds_setLc {i : Nat} {y : Str} {py : Pos} {elt tg iter : Expr} {ifs : List Expr} {scope : Scope} {own : List (Str × Nat)} {spos : Pos} {wi : TI} {g : TG} {tt : TT} {ι : DTI} {γ : DTG} {τt : DTT} (hc : X.calm = true) (hN : X.N.Nodup) (hy : X.N[i]? = some y) (hyl : X.env.scope.names.lookup y = some .local)
    (hsw : swapsWith (.ListComp elt [⟨tg, iter, ifs, 0⟩] scope pos) (some (.Name y py)) spos.line X.env = pure true) (hi : DB K mg W X tg iter wi ι) (ok : BlkOk X.N X.env.scope scope own)
    (hg : ∀ (s : Shared) (H : Hp) (C : Addr) (cl : List (Str × Addr)) (fp : List Addr), DG K (X.blk s H scope (compEnvC scope cl C X.env) fp) tg g γ) (gm : GM g) (gw : GW g (own.map (·.2)))
    (ht : ∀ (s : Shared) (H : Hp) (C : Addr) (cl : List (Str × Addr)) (fp : List Addr), DTs K mg WF (X.blk s H scope (compEnvC scope cl C X.env) fp) ifs tt τt)
    (he : ∀ (s : Shared) (H : Hp) (C : Addr) (cl : List (Str × Addr)) (fp : List Addr), DE K mg WF (X.blk s H scope (compEnvC scope cl C X.env) fp) elt te τe) (hs : ∀ x, foldedSetIterable iter X.env x = pure x := by intro _; rfl) :
    DS K mg W X (.Assign [.Name y py] (.ListComp elt [⟨tg, iter, ifs, 0⟩] scope pos) spos) (tAsg (tLc wi g tt te (own.map (·.2))) (gName i)) (τAsg (τLc ι γ τt τe (own.map (·.2))) (γName i)) :=
  ⟨ps_setLc hc hN hy hyl hsw hi.pe ok (fun s H C cl fp => (hg s H C cl fp).pe) (fun s H C cl fp => (ht s H C cl fp).pe) (fun s H C cl fp => (he s H C cl fp).pe) hs,
    sem_asg (sem_lc hi.sem (hg X.s_0 X.H_0 0 [] []).sem gm gw (ht X.s_0 X.H_0 0 [] []).sem (he X.s_0 X.H_0 0 [] []).sem) (sem_gname i)⟩
def noBor : S → Prop
  | .bor _ => False
  | _ => True
def τPar (i j : Nat) (a b : DT) : DTS := fun x M ρ => a x ρ fun s => b x ρ fun t => noBor s ∧ noBor t ∧ M.nx (stv (stv ρ i (some s)) j (some t))
theorem noBor_ne {s : S} (h : noBor s) : ∀ ds, s ≠ .bor ds := fun ds e => by subst e; exact h
theorem ds_par {i j : Nat} {x y : Str} {a b : Expr} {ta tb : TE} {τa τb : DT} {px py pt : Pos} {kt k2 pt2} (hc : X.calm = true) (hN : X.N.Nodup) (hi : X.N[i]? = some x) (hj : X.N[j]? = some y) (hij : i ≠ j)
    (hx : X.env.scope.names.lookup x = some .local) (hy : X.env.scope.names.lookup y = some .local) (da : DE K mg W X a ta τa) (db : DE K mg W X b tb τb)
    (hw : swappedStores [.Tuple [.Name x px, .Name y py] kt pt] (.Tuple [a, b] k2 pt2) X.env = pure (some [x, y]))
    (hs : swapsWithSole [.Tuple [.Name x px, .Name y py] kt pt] (.Tuple [a, b] k2 pt2) pos.line X.env = pure false := by rfl)
    (s1 : starEach [a, b] X.env = (false, eval a X.env) :: starEach [b] X.env := by rfl) (s2 : starEach [b] X.env = (false, eval b X.env) :: starEach [] X.env := by rfl) :
    DS K mg W X (.Assign [.Tuple [.Name x px, .Name y py] kt pt] (.Tuple [a, b] k2 pt2) pos) (tPar i j (tCons ta (tCons tb tNil))) (τPar i j τa τb) := by
  refine ⟨ps_par hc hN hi hj hij hx hy (pa_cons da.pe (pa_cons db.pe pa_nil s2) s1) hw hs, fun Z G0 H0 x hx E M en σ ρ G H R h => ?_⟩
  refine da.sem Z G0 H0 x hx σ ρ G H _ _ R h fun s v G1 H1 g1 h1 => ?_
  refine db.sem Z G0 H0 x hx σ ρ G1 H1 _ _ (R.mono g1.ext g1.ok) h1 fun t u G2 H2 g2 h2 => ?_
  exact ⟨v, u, rfl, en.nx _ _ G2 H2 ((R.put g1 (noBor_ne h2.1)).put g2 (noBor_ne h2.2.1)) h2.2.2⟩

/-! ### return, if -/
def τRet (a : DT) : DTS := fun x M ρ => a x ρ fun s => noBor s ∧ M.rt s
theorem ds_ret (a : DE K mg W X e te τe) : DS K mg W X (.Return (some e) pos) (tRet te) (τRet τe) :=
  ⟨ps_ret a.pe, fun Z G0 H0 x hx E M en σ ρ G H R h => a.sem Z G0 H0 x hx σ ρ G H _ _ R h fun s v G1 H1 g1 h1 => en.rt s v G1 H1 (.after R.ext g1) (noBor_ne h1.1) h1.2⟩
def τRetV (i : Nat) : DTS := fun x M ρ => match lk ρ i with
  | some s => M.rt s
  | none => False
theorem ds_retv (i : Nat) {x : Str} {p : Pos} (hN : X.N[i]? = some x := by rfl) (hv : Vis X.env.scope x := by first | exact Or.inl rfl | exact Or.inr (Or.inl rfl) | exact Or.inr (Or.inr rfl)) (hd : (x == ("__debug__" : Str)) = false := by decide)
    (hcd : (x == ("__classdict__" : Str)) = false := by decide) : DS K mg W X (.Return (some (.Name x p)) pos) (tRet (tVar i)) (τRetV i) := by
  refine ⟨ps_ret (pe_var hN hv hd hcd), fun Z G0 H0 x hx E M en σ ρ G H R h => ?_⟩
  unfold τRetV at h
  split at h
  · rename_i s es
    obtain ⟨v, e1, sl⟩ := R.sl i s es
    refine ⟨v, e1, en.rt s v G H ⟨R.ext, R.ok, ?_, ?_, ?_⟩ ?_ h⟩
    · cases s with
      | dat d => exact sl
      | own ds => obtain ⟨l, xs, a1, a2, a3, a4, a5, _⟩ := sl; exact ⟨l, xs, a1, a2, a3, a4, a5⟩
      | bor ds => exact sl.elim
      | tok => exact sl
      | dct t kvs => obtain ⟨l, xs, a1, a2, a3, a4, a5, _⟩ := sl; exact ⟨l, xs, a1, a2, a3, a4, a5⟩
    · intro ds e2 l e3
      subst e2
      obtain ⟨l', xs, a1, a2, a3, a4, a5, a6⟩ := sl
      rw [a1] at e3
      cases e3
      exact a6
    · intro t kvs e2 l e3
      subst e2
      obtain ⟨l', xs, a1, a2, a3, a4, a5, a6⟩ := sl
      rw [a1] at e3
      cases e3
      exact a6
    · intro ds e2
      subst e2
      exact sl.elim
  · exact h.elim
def τRetN : DTS := fun x M ρ => M.rt (.dat .none)
theorem ds_retN : DS K mg W X (.Return none pos) tRetN τRetN := ⟨ps_retN, fun Z G0 H0 x hx E M en σ ρ G H R h => en.rt (.dat .none) _ G H ⟨R.ext, R.ok, Dq.non, fun _ e => (by cases e), fun _ _ e => (by cases e)⟩ (fun _ e => by cases e) h⟩
def τIfS (c : DTT) (a b : DTS) : DTS := fun x M ρ => c x ρ fun k => if k = true then a x M ρ else b x M ρ
theorem ds_if {c : Expr} {a b : List Stmt} {tc : TT} {τc : DTT} (hc : DC K mg W X c tc τc) (ha : DSs K mg W X a t τ) (hb : DSs K mg W X b u υ) : DS K mg W X (.If c a b pos) (tIfS tc t u) (τIfS τc τ υ) := by
  refine ⟨ps_if hc.pe ha.pe hb.pe, fun Z G0 H0 x hx E M en σ ρ G H R h => ?_⟩
  refine hc.sem Z G0 H0 x hx σ ρ G H _ _ R h fun k G1 H1 e1 o1 h1 => ?_
  by_cases hk : k = true
  · rw [if_pos hk] at h1 ⊢
    exact ha.sem Z G0 H0 x hx E M en σ ρ G1 H1 (R.mono e1 o1) h1
  · rw [if_neg hk] at h1 ⊢
    exact hb.sem Z G0 H0 x hx E M en σ ρ G1 H1 (R.mono e1 o1) h1
def τDrop (a : DT) : DTS := fun x M ρ => a x ρ fun _ => M.nx ρ
theorem ds_expr (a : DE K mg W X e te τe) (hs : swapsWith e none pos.line X.env = pure false := by rfl) : DS K mg W X (.Expr e pos) (tDrop te) (τDrop τe) :=
  ⟨ps_expr a.pe hs, fun Z G0 H0 x hx E M en σ ρ G H R h => a.sem Z G0 H0 x hx σ ρ G H _ _ R h fun s v G1 H1 g1 h1 => en.nx σ ρ G1 H1 (R.mono g1.ext g1.ok) h1⟩

/-! ### loops -/
theorem Ext.base {Z : Rg} {G0 H0 G1 H1 G H : Hp} (a : Ext Z G0 H0 G1 H1) (e : Ext Z G1 H0 G H) : Ext Z G0 H0 G H :=
  ⟨fun b u q => e.g b u (a.g b u q), e.h, fun b q => by
    rcases e.n b q with r | r
    · exact a.n b r
    · exact .inr r, e.t⟩
theorem SRel.up {Z : Rg} {K : PySem.W.Frag} {G0 H0 G H : Hp} {σ : L2.St} {ρ : DEnv} (R : SRel Z K G0 H0 G H σ ρ) : SRel Z K G H0 G H σ ρ :=
  ⟨R.ok, ⟨fun _ _ e => e, R.ext.h, fun _ e => .inl e, R.ext.t⟩, R.sl, R.dis, R.len⟩
theorem SRel.down {Z : Rg} {K : PySem.W.Frag} {G0 H0 G1 H1 G H : Hp} {σ : L2.St} {ρ : DEnv} (a : Ext Z G0 H0 G1 H1) (R : SRel Z K G1 H0 G H σ ρ) : SRel Z K G0 H0 G H σ ρ :=
  ⟨R.ok, a.base R.ext, R.sl, R.dis, R.len⟩
theorem XOk.up {Z : Rg} {K : PySem.W.Frag} {mg : Str → Option Value} {G0 H0 G1 H1 : Hp} {W : WX} {x : Xn} (a : Ext Z G0 H0 G1 H1) (h : XOk Z K mg G0 H0 W x) : XOk Z K mg G1 H0 W x :=
  fun nm fs C d σ' G' H' h1 h2 h3 h4 h5 => h nm fs C d σ' G' H' h1 h2 (a.base h3) h4 h5
theorem Got.down {Z : Rg} {K : PySem.W.Frag} {G0 H0 G1 H1 G H : Hp} {v : V} {s : S} (a : Ext Z G0 H0 G1 H1) (g : Got Z K G1 H0 G H v s) : Got Z K G0 H0 G H v s := ⟨a.base g.ext, g.ok, g.sv, g.nw, g.nd⟩
def forL (γ : DTG) (τb : DTS) (x : Xn) (M : DEnds) : List D → DEnv → Prop
  | [], ρ => M.nx ρ
  | d :: r, ρ => γ (.dat d) ρ fun ρ1 => τb x { M with nx := forL γ τb x M r, ct := forL γ τb x M r, bk := M.nx } ρ1
def τFor (ι : DTI) (γ : DTG) (τb : DTS) : DTS := fun x M ρ => ι x ρ fun items => forL γ τb x M items ρ
theorem ds_for {tg iter : Expr} {body : List Stmt} {wi : TI} {g : TG} {tb : TS} {ι : DTI} {γ : DTG} {τb : DTS} (hp : PassesOwn (model X.prog X.w) X.A X.env X.xe) (hc : X.calm = true) (hi : DI K mg W X tg iter wi ι) (hg : DG K X tg g γ) (hb : DSs K mg W X body tb τb)
    (hs : ∀ x, foldedSetIterable iter X.env x = pure x := by intro _; rfl) : DS K mg W X (.For tg iter body [] pos) (tFor wi g tb) (τFor ι γ τb) := by
  refine ⟨ps_for hp hc hi.pe hg.pe hb.pe hs, fun Z G0 H0 x hx E M en σ ρ G H R h => ?_⟩
  refine hi.sem Z G0 H0 x hx σ ρ G H _ _ R h fun items J G1 H1 e1 o1 it h1 => ?_
  have eb := R.ext.trans e1
  have ex := hx.up eb
  refine ⟨fun i m σ H => m = items.length - i ∧ i ≤ items.length ∧ ∃ G ρ, SRel Z K G1 H0 G H σ ρ ∧ forL γ τb x M (items.drop i) ρ,
    ⟨items.length, by omega, Nat.zero_le _, G1, ρ, (R.mono e1 o1).up, h1⟩, ?_⟩
  rintro i m σ2 H2 ⟨rfl, hi2, G2, ρ2, R2, hl⟩
  have tn := it G2 H2 R2.ok R2.ext.g i
  cases q : items[i]? with
  | none =>
    have hlen := List.getElem?_eq_none_iff.mp q
    rw [List.drop_eq_nil_of_le hlen] at hl
    exact .inl ⟨tn.2 q, en.nx σ2 ρ2 G2 H2 (R2.down eb) hl⟩
  | some d =>
    obtain ⟨hlt, hd2⟩ := List.getElem?_eq_some_iff.mp q
    have hdr : items.drop i = d :: items.drop (i + 1) := by rw [List.drop_eq_getElem_cons hlt, hd2]
    rw [hdr] at hl
    obtain ⟨go, yl⟩ := tn.1 d q
    refine .inr ⟨go, fun σ H => i + 1 ≤ items.length ∧ ∃ G ρ, SRel Z K G1 H0 G H σ ρ ∧ forL γ τb x M (items.drop (i + 1)) ρ, fun σ' H' q' => ⟨items.length - (i + 1), by omega, rfl, q'⟩, fun v H3 y => ?_⟩
    obtain ⟨G3, e3, o3, d3⟩ := yl v H3 y
    refine hg.sem Z G1 H0 G3 H3 G3 H3 σ2 ρ2 v (.dat d) _ _ (R2.mono e3 o3) (.here o3 d3) hl fun σ4 ρ4 G4 H4 e4 R4 h4 => ?_
    exact hb.sem Z G1 H0 x ex { E with nx := fun σ H => i + 1 ≤ items.length ∧ ∃ G ρ, SRel Z K G1 H0 G H σ ρ ∧ forL γ τb x M (items.drop (i + 1)) ρ, ct := fun σ H => i + 1 ≤ items.length ∧ ∃ G ρ, SRel Z K G1 H0 G H σ ρ ∧ forL γ τb x M (items.drop (i + 1)) ρ, bk := E.nx }
      { M with nx := forL γ τb x M (items.drop (i + 1)), ct := forL γ τb x M (items.drop (i + 1)), bk := M.nx } ⟨fun σ ρ G H R h => ⟨hlt, G, ρ, R, h⟩, fun s v G H g nb h => en.rt s v G H (g.down eb) nb h, fun σ ρ G H R h => en.nx σ ρ G H (R.down eb) h,
      fun σ ρ G H R h => ⟨hlt, G, ρ, R, h⟩⟩ σ4 ρ4 G4 H4 R4 h4
def τWhile (c : DTT) (τb : DTS) : DTS := fun x M ρ => ∃ I : Nat → DEnv → Prop, (∃ m, I m ρ) ∧ ∀ m ρ, I m ρ → c x ρ fun b => if b = true then τb x { M with nx := fun ρ' => ∃ m', m' < m ∧ I m' ρ', ct := fun ρ' => ∃ m', m' < m ∧ I m' ρ', bk := M.nx } ρ else M.nx ρ
theorem ds_while {c : Expr} {body : List Stmt} {tc : TT} {tb : TS} {τc : DTT} {τb : DTS} (hp : PassesOwn (model X.prog X.w) X.A X.env X.xe) (hc : DC K mg W X c tc τc) (hb : DSs K mg W X body tb τb) : DS K mg W X (.While c body [] pos) (tWhile tc tb) (τWhile τc τb) := by
  refine ⟨ps_while hp hc.pe hb.pe, fun Z G0 H0 x hx E M en σ ρ G H R h => ?_⟩
  obtain ⟨I, ⟨m0, i0⟩, h⟩ := h
  refine ⟨fun m σ H => ∃ G ρ, SRel Z K G0 H0 G H σ ρ ∧ I m ρ, ⟨m0, G, ρ, R, i0⟩, ?_⟩
  rintro m σ1 H1 ⟨G1, ρ1, R1, i1⟩
  refine hc.sem Z G0 H0 x hx σ1 ρ1 G1 H1 _ _ R1 (h m ρ1 i1) fun b G2 H2 e2 o2 h2 => ?_
  by_cases hb' : b = true
  · rw [if_pos hb'] at h2 ⊢
    refine ⟨fun σ H => ∃ m', m' < m ∧ ∃ G ρ, SRel Z K G0 H0 G H σ ρ ∧ I m' ρ, fun σ' H' ⟨m', hm, q⟩ => ⟨m', hm, q⟩, ?_⟩
    exact hb.sem Z G0 H0 x hx { E with nx := fun σ H => ∃ m', m' < m ∧ ∃ G ρ, SRel Z K G0 H0 G H σ ρ ∧ I m' ρ, ct := fun σ H => ∃ m', m' < m ∧ ∃ G ρ, SRel Z K G0 H0 G H σ ρ ∧ I m' ρ, bk := E.nx }
      { M with nx := fun ρ' => ∃ m', m' < m ∧ I m' ρ', ct := fun ρ' => ∃ m', m' < m ∧ I m' ρ', bk := M.nx } ⟨fun σ ρ G H R ⟨m', hm, q⟩ => ⟨m', hm, G, ρ, R, q⟩, en.rt, fun σ ρ G H R h => en.nx σ ρ G H R h, fun σ ρ G H R ⟨m', hm, q⟩ => ⟨m', hm, G, ρ, R, q⟩⟩ σ1 ρ1 G2 H2 (R1.mono e2 o2) h2
  · rw [if_neg hb'] at h2 ⊢
    exact en.nx σ1 ρ1 G2 H2 (R1.mono e2 o2) h2

/-! ### lists of the def's own, changed -/
/-- what stands in slot i, the def's own, is written -/
theorem SRel.wrG {Z : Rg} {K : PySem.W.Frag} {G0 H0 G H : Hp} {σ : L2.St} {ρ : DEnv} {i : Nat} {s s' : S} {l : Addr} {u' : HO} (R : SRel Z K G0 H0 G H σ ρ) (e : lk ρ i = some s) (m : s.mt = true) (el : σ[i]? = some (some (.ref l)))
    (q3 : G l = none) (q4 : ¬ Z.has l) (q5 : H0 l = none) (h : Slot Z K G (upd H l u') H0 (.ref l) s') (m' : s'.mt = true) : SRel Z K G0 H0 G (upd H l u') σ (stv ρ i (some s')) := by
  have ow : ∀ j t w, S.mt t = true → lk ρ j = some t → σ[j]? = some (some w) → j ≠ i → w ≠ .ref l := fun j t w mt a b c z => c (R.dis j i t s w mt m a e b (by rw [z]; exact el))
  refine ⟨R.ok.wr q3 q4, R.ext.wr q5, fun j t es => ?_, fun j k fs gs w m1 m2 a1 a2 a3 a4 => ?_, by rw [stv_len]; exact R.len⟩
  · by_cases hij : i = j
    · subst hij
      have := lk_same es
      cases this
      exact ⟨_, el, h⟩
    · rw [lk_ne hij] at es
      obtain ⟨w, w1, w2⟩ := R.sl j t es
      refine ⟨w, w1, ?_⟩
      cases t with
      | dat d => exact w2
      | own fs =>
        obtain ⟨mm, ys, rfl, a1, a2, a3, a4, a5⟩ := w2
        have hne : mm ≠ l := fun z => ow j _ _ rfl es w1 (fun z => hij z.symm) (by rw [z])
        exact ⟨mm, ys, rfl, by rw [upd_ne hne]; exact a1, a2, a3, a4, a5⟩
      | bor fs => exact w2.elim
      | tok => exact w2
      | dct t fs =>
        obtain ⟨mm, ys, rfl, a1, a2, a3, a4, a5⟩ := w2
        have hne : mm ≠ l := fun z => ow j _ _ rfl es w1 (fun z => hij z.symm) (by rw [z])
        exact ⟨mm, ys, rfl, by rw [upd_ne hne]; exact a1, a2, a3, a4, a5⟩
  · have own' : ∀ j t, S.mt t = true → lk (stv ρ i (some s')) j = some t → ∃ t', S.mt t' = true ∧ lk ρ j = some t' := fun j t mt a => by
      by_cases hij : i = j
      · subst hij; exact ⟨s, m, e⟩
      · rw [lk_ne hij] at a; exact ⟨t, mt, a⟩
    obtain ⟨f1, n1, b1⟩ := own' j fs m1 a1
    obtain ⟨f2, n2, b2⟩ := own' k gs m2 a2
    exact R.dis j k f1 f2 w n1 n2 b1 b2 a3 a4
/-- what stands in slot i, the def's own, stands still from here on -/
theorem SRel.still {Z : Rg} {K : PySem.W.Frag} {G0 H0 G H : Hp} {σ : L2.St} {ρ : DEnv} {i : Nat} {s : S} {l : Addr} {u' : HO} {d : D} (R : SRel Z K G0 H0 G H σ ρ) (e : lk ρ i = some s) (m : s.mt = true) (el : σ[i]? = some (some (.ref l)))
    (q3 : G l = none) (q4 : ¬ Z.has l) (q5 : H0 l = none) (h : Dq K (upd G l u') (.ref l) d) : SRel Z K G0 H0 (upd G l u') (upd H l u') σ (stv ρ i (some (.dat d))) := by
  have up : ∀ b w, G b = some w → (upd G l u') b = some w := fun b w q => by
    rw [upd_ne (ne_of_none q q3)]; exact q
  have ow : ∀ j t w, S.mt t = true → lk ρ j = some t → σ[j]? = some (some w) → j ≠ i → w ≠ .ref l := fun j t w mt a b c z => c (R.dis j i t s w mt m a e b (by rw [z]; exact el))
  refine ⟨⟨fun b w q => ?_, Z.loc R.ok.z fun b hb => ?_, fun b hb => ?_⟩, ⟨fun b w q => up b w (R.ext.g b w q), (R.ext.wr q5).h, fun b q => ?_, (R.ext.wr q5).t⟩, fun j t es => ?_, fun j k fs gs w m1 m2 a1 a2 a3 a4 => ?_, by rw [stv_len]; exact R.len⟩
  · by_cases hb : b = l
    · subst hb; rw [upd_same] at q ⊢; exact q
    · rw [upd_ne hb] at q ⊢; exact R.ok.s b w q
  · rw [upd_ne (fun z : b = l => q4 (z ▸ hb))]
  · rw [upd_ne (fun z : b = l => q4 (z ▸ hb))]; exact R.ok.d b hb
  · by_cases hb : b = l
    · subst hb; exact .inr (.inl q5)
    · rw [upd_ne hb] at q; exact R.ext.n b q
  · by_cases hij : i = j
    · subst hij
      have := lk_same es
      cases this
      exact ⟨_, el, h⟩
    · rw [lk_ne hij] at es
      obtain ⟨w, w1, w2⟩ := R.sl j t es
      refine ⟨w, w1, ?_⟩
      cases t with
      | dat d => exact dp_mono up d w w2
      | own fs =>
        obtain ⟨mm, ys, rfl, a1, a2, a3, a4, a5⟩ := w2
        have hne : mm ≠ l := fun z => ow j _ _ rfl es w1 (fun z => hij z.symm) (by rw [z])
        exact ⟨mm, ys, rfl, by rw [upd_ne hne]; exact a1, dpAll_mono up fs ys a2, by rw [upd_ne hne]; exact a3, a4, a5⟩
      | bor fs => exact w2.elim
      | tok => exact w2
      | dct t fs =>
        obtain ⟨mm, ys, rfl, a1, a2, a3, a4, a5⟩ := w2
        have hne : mm ≠ l := fun z => ow j _ _ rfl es w1 (fun z => hij z.symm) (by rw [z])
        exact ⟨mm, ys, rfl, by rw [upd_ne hne]; exact a1, a2.mono up, by rw [upd_ne hne]; exact a3, a4, a5⟩
  · have own' : ∀ j t, S.mt t = true → lk (stv ρ i (some (.dat d))) j = some t → lk ρ j = some t := fun j t mt a => by
      by_cases hij : i = j
      · subst hij
        have := lk_same a
        cases this
        cases mt
      · rw [lk_ne hij] at a; exact a
    exact R.dis j k fs gs w m1 m2 (own' j fs m1 a1) (own' k gs m2 a2) a3 a4
theorem upd_id {H : Hp} {l : Addr} {u : HO} (h : H l = some u) : upd H l u = H := by
  funext b
  by_cases hb : b = l
  · subst hb; rw [upd_same, h]
  · rw [upd_ne hb]
theorem SRel.write {Z : Rg} {K : PySem.W.Frag} {G0 H0 G H : Hp} {σ : L2.St} {ρ : DEnv} {i : Nat} {ds ds' : List D} {l : Addr} {xs' : List V} (R : SRel Z K G0 H0 G H σ ρ) (e : lk ρ i = some (.own ds)) (el : σ[i]? = some (some (.ref l))) (h : DqAll K G xs' ds') :
    SRel Z K G0 H0 G (upd H l (.lst xs')) σ (stv ρ i (some (.own ds'))) := by
  obtain ⟨v, e1, l', xs, rfl, q1, q2, q3, q4, q5⟩ := R.sl i _ e
  rw [el] at e1
  cases e1
  exact R.wrG e rfl el q3 q4 q5 ⟨l, xs', rfl, upd_same, h, q3, q4, q5⟩ rfl
theorem SRel.frz {Z : Rg} {K : PySem.W.Frag} {G0 H0 G H : Hp} {σ : L2.St} {ρ : DEnv} {i : Nat} {ds : List D} (R : SRel Z K G0 H0 G H σ ρ) (e : lk ρ i = some (.own ds)) : ∃ G', SRel Z K G0 H0 G' H σ (stv ρ i (some (.dat (.list ds)))) := by
  obtain ⟨v, el, l, xs, rfl, q1, q2, q3, q4, q5⟩ := R.sl i _ e
  have r := R.still (u' := .lst xs) (d := .list ds) e rfl el q3 q4 q5 (Dq.lst (SqL.of upd_same) (dpAll_mono (fun b w q => by rw [upd_ne (ne_of_none q q3)]; exact q) ds xs q2))
  rw [upd_id q1] at r
  exact ⟨_, r⟩
def τFrz (i : Nat) (a : DTS) : DTS := fun x M ρ => match lk ρ i with
  | some (.own ds) => a x M (stv ρ i (some (.dat (.list ds))))
  | _ => a x M ρ
/-- from here on the list in slot i stands still -/
theorem DSs.frz (i : Nat) {sts : List Stmt} (h : DSs K mg W X sts t τ) : DSs K mg W X sts t (τFrz i τ) := by
  refine ⟨h.pe, fun Z G0 H0 x hx E M en σ ρ G H R q => ?_⟩
  unfold τFrz at q
  split at q
  · rename_i ds e
    obtain ⟨G', R'⟩ := R.frz e
    exact h.sem Z G0 H0 x hx E M en σ _ G' H R' q
  · exact h.sem Z G0 H0 x hx E M en σ ρ G H R q
def τApp (i : Nat) (a : DT) : DTS := fun x M ρ => match lk ρ i with
  | some (.own ds) => a x ρ fun s => match s.fz with
    | .dat e => ds.length < sizeLine ∧ M.nx (stv ρ i (some (.own (ds ++ [e]))))
    | _ => False
  | _ => False
variable {nm : Str} {p apos cpos : Pos}
theorem sem_append {K : PySem.W.Frag} {mg : Str → Option Value} {i : Nat} (a : Sem K mg W te τe) : SemS K mg W (tDrop (tBM K "list" rAppend (tVar i) (tCons te tNil))) (τApp i τe) := by
  intro Z G0 H0 x hx E M en σ ρ G H R h
  unfold τApp at h
  split at h
  · rename_i ds e
    obtain ⟨v, e1, l, xs, rfl, q1, q2, q3, q4, q5⟩ := R.sl i _ e
    refine ⟨_, e1, .inl ⟨rfl, _, SqL.of q1⟩, ?_⟩
    refine a Z G0 H0 x hx σ ρ G H _ _ R h fun s v G1 H1 g1 h1 => ?_
    obtain ⟨G2, g2, _⟩ := g1.fz
    split at h1
    · rename_i d es
      have R2 := R.mono g2.ext g2.ok
      obtain ⟨v', e1', l', xs', rfl, b1, b2, _⟩ := R2.sl i _ e
      rw [e1] at e1'
      cases e1'
      have d2 := g2.sv
      rw [es] at d2
      have d2' : Dq K G2 v d := d2
      refine ⟨l, xs', v, rfl, rfl, b1, by rw [b2.length]; exact h1.1, ?_⟩
      exact en.nx σ _ G2 _ (R2.write e e1 (b2.append (.cons d2' .nil))) h1.2
    · exact h1.elim
  · exact h.elim
def τExt (i : Nat) (a : DT) : DTS := fun x M ρ => match lk ρ i with
  | some (.own ds) => a x ρ fun s => match s.liv with
    | some es => ds.length + es.length ≤ sizeLine ∧ M.nx (stv ρ i (some (.own (ds ++ es))))
    | none => False
  | _ => False
theorem sem_extend {K : PySem.W.Frag} {mg : Str → Option Value} {i : Nat} (a : Sem K mg W te τe) : SemS K mg W (tDrop (tBM K "list" rExtend (tVar i) (tCons te tNil))) (τExt i τe) := by
  intro Z G0 H0 x hx E M en σ ρ G H R h
  unfold τExt at h
  split at h
  · rename_i ds e
    obtain ⟨v, e1, l, xs, rfl, q1, q2, q3, q4, q5⟩ := R.sl i _ e
    refine ⟨_, e1, .inl ⟨rfl, _, SqL.of q1⟩, ?_⟩
    refine a Z G0 H0 x hx σ ρ G H _ _ R h fun s v G1 H1 g1 h1 => ?_
    split at h1
    · rename_i es ee
      obtain ⟨m, ys, rfl, c1, c2⟩ := g1.sv.liv ee
      have R2 := R.mono g1.ext g1.ok
      obtain ⟨v', e1', l', xs', rfl, b1, b2, _⟩ := R2.sl i _ e
      rw [e1] at e1'
      cases e1'
      refine ⟨l, m, xs', ys, rfl, rfl, b1, c1, by rw [b2.length, c2.length]; exact h1.1, ?_⟩
      exact en.nx σ _ G1 _ (R2.write e e1 (b2.append c2)) h1.2
    · exact h1.elim
  · exact h.elim
theorem ds_append {e1 : Expr} (i : Nat) (a : DE K mg W X e1 te τe) (pe : PE X e1 te → PS X (.Expr (.Call (.Attribute (.Name nm p) "append" apos) [e1] [] cpos) pos) (tDrop (tBM X.K "list" rAppend (tVar i) (tCons te tNil))) := by
      exact fun h => ps_expr (pe_bm PySem.F.plainAttrs_list PySem.F.slot_list_append PySem.F.type_list_append mt_append (pv _) (pa_cons h pa_nil))) (hK : X.K = K := by rfl) :
    DS K mg W X (.Expr (.Call (.Attribute (.Name nm p) "append" apos) [e1] [] cpos) pos) (tDrop (tBM K "list" rAppend (tVar i) (tCons te tNil))) (τApp i τe) := by
  subst hK
  exact ⟨pe a.pe, sem_append a.sem⟩
theorem ds_extend {e1 : Expr} (i : Nat) (a : DE K mg W X e1 te τe) (pe : PE X e1 te → PS X (.Expr (.Call (.Attribute (.Name nm p) "extend" apos) [e1] [] cpos) pos) (tDrop (tBM X.K "list" rExtend (tVar i) (tCons te tNil))) := by
      exact fun h => ps_expr (pe_bm PySem.F.plainAttrs_list PySem.F.slot_list_extend PySem.F.type_list_extend mt_extend (pv _) (pa_cons h pa_nil))) (hK : X.K = K := by rfl) :
    DS K mg W X (.Expr (.Call (.Attribute (.Name nm p) "extend" apos) [e1] [] cpos) pos) (tDrop (tBM K "list" rExtend (tVar i) (tCons te tNil))) (τExt i τe) := by
  subst hK
  exact ⟨pe a.pe, sem_extend a.sem⟩
end
end DL

set_option Elab.async false
set_option linter.all false
set_option maxRecDepth 100000
set_option maxHeartbeats 4000000
/-! DL6: defs and their calls. -/
namespace DL
open PySem PySem.Spec PyProof.Rows L2

abbrev DSp := List S → Xn → (S → Prop) → Prop
def argOk : S → Prop
  | .dat _ => True
  | .tok => True
  | _ => False
def spD (K : PySem.W.Frag) (mg : Str → Option Value) (sp : DSp) : Sp := fun vs H Q E => ∃ (Z : Rg) (G : Hp) (ss : List S) (x : Xn) (Qd : S → Prop), Ok Z G H ∧ SVs Z K G H vs ss ∧ (∀ s ∈ ss, argOk s) ∧ sp ss x Qd ∧
  (∀ s v G' H', Got Z K G H G' H' v s → (∀ ds, s ≠ .bor ds) → Qd s → Q v H') ∧
  (∀ nm fs C d G' H', mg nm = some (.ref C) → x nm fs → Ext Z G H G' H' → Ok Z G' H' → XPay K H' d fs → E (.ref C) d H')
/-- the def called nm keeps the promise sp -/
structure Fd (P : Program) (w : World) (K : PySem.W.Frag) (mg : Str → Option Value) (base : Heap) (nm : Str) (k : Nat) (ps : List Str) (sp : DSp) : Prop where
  ex : ∃ (f : Addr) (fd : FuncData), mg nm = some (.ref f) ∧ PySem.W.keepIn K (.ref f) = true ∧ Binds K fd ps [] ∧ FnOk P w K mg base (L2.CX P w) k f fd ps (spD K mg sp)
/-- the same, and its parameters may be given by name -/
structure FdK (P : Program) (w : World) (K : PySem.W.Frag) (mg : Str → Option Value) (base : Heap) (nm : Str) (k : Nat) (ps : List Str) (sp : DSp) : Prop where
  ex : ∃ (f : Addr) (fd : FuncData), mg nm = some (.ref f) ∧ PySem.W.keepIn K (.ref f) = true ∧ Binds K fd ps [] ∧ KBinds K fd ps ps (fun us ws => us ++ ws) (fun vs zs => vs ++ zs) ∧ FnOk P w K mg base (L2.CX P w) k f fd ps (spD K mg sp)
theorem FdK.fd {P : Program} {w : World} {K : PySem.W.Frag} {mg : Str → Option Value} {base : Heap} {nm : Str} {k : Nat} {ps : List Str} {sp : DSp} (F : FdK P w K mg base nm k ps sp) : Fd P w K mg base nm k ps sp := by
  obtain ⟨f, fd, a, b, c, _, d⟩ := F.ex
  exact ⟨f, fd, a, b, c, d⟩
def noneL : Nat → DEnv
  | 0 => []
  | n + 1 => none :: noneL n
def envOf : List S → Nat → DEnv
  | [], n => noneL n
  | s :: r, n => some s :: envOf r (n - 1)
theorem noneL_len : ∀ n : Nat, (noneL n).length = n
  | 0 => rfl
  | n + 1 => congrArg (· + 1) (noneL_len n)
theorem envOf_len : ∀ (ss : List S) (n : Nat), ss.length ≤ n → (envOf ss n).length = n
  | [], n, _ => noneL_len n
  | s :: r, n, h => by
    show (envOf r (n - 1)).length + 1 = n
    have h' : r.length + 1 ≤ n := h
    rw [envOf_len r (n - 1) (by omega)]
    omega
theorem envOf_none : ∀ (n i : Nat) (s : S), lk (noneL n) i ≠ some s
  | 0, _, _ => fun e => by cases e
  | n + 1, 0, _ => fun e => by cases e
  | n + 1, i + 1, s => envOf_none n i s
theorem envOf_lk : ∀ (ss : List S) (n i : Nat) (s : S), lk (envOf ss n) i = some s → ss[i]? = some s
  | [], n, i, s, h => absurd h (envOf_none n i s)
  | t :: r, n, 0, s, h => h
  | t :: r, n, i + 1, s, h => envOf_lk r (n - 1) i s h
theorem svs_get {Z : Rg} {K : PySem.W.Frag} {G H : Hp} : ∀ {vs : List V} {ss : List S} {i : Nat} {s : S}, SVs Z K G H vs ss → ss[i]? = some s → ∃ v, vs[i]? = some v ∧ SV Z K G H v s
  | [], [], _, _, _, e => by simp at e
  | v :: vs, t :: ss, 0, s, h, e => by
    have e' : t = s := by simpa using e
    subst e'
    exact ⟨v, rfl, h.1.1⟩
  | v :: vs, t :: ss, i + 1, s, h, e => by
    obtain ⟨u, h1, h2⟩ := svs_get (i := i) (s := s) h.2 (by simpa using e)
    exact ⟨u, by simpa using h1, h2⟩
  | [], _ :: _, _, _, h, _ => h.elim
  | _ :: _, [], _, _, h, _ => h.elim
section
variable {P : Program} {w : World} {K : PySem.W.Frag} {mg : Str → Option Value} {base : Heap}
abbrev WX0 (E : XK) : WX := fun cls d _ H => E cls d H
theorem start_rel {Z : Rg} {G H : Hp} {vs : List V} {ss : List S} {N : List Str} (o : Ok Z G H) (h : SVs Z K G H vs ss) (ha : ∀ s ∈ ss, argOk s) (hl : ss.length ≤ N.length) : SRel Z K G H G H (L2.start N vs) (envOf ss N.length) := by
  have hv := h.length
  refine ⟨o, .refl, fun i s e => ?_, fun i j ds es v m1 _ e1 _ _ _ => ?_, ?_⟩
  · have e' := envOf_lk ss _ i s e
    obtain ⟨v, h1, h2⟩ := svs_get h e'
    have hi : i < vs.length := (List.getElem?_eq_some_iff.mp h1).1
    refine ⟨v, ?_, ?_⟩
    · unfold L2.start
      rw [List.getElem?_append_left (by rw [List.length_map]; exact hi), List.getElem?_map, h1]
      rfl
    · have q := ha s (List.mem_of_getElem? e')
      cases s with
      | dat d => exact h2
      | own ds => exact q.elim
      | bor ds => exact q.elim
      | tok => exact h2
      | dct t kvs => exact q.elim
  · have q := ha _ (List.mem_of_getElem? (envOf_lk ss _ i _ e1))
    cases ds with
    | own _ => exact q.elim
    | dct _ _ => exact q.elim
    | dat _ => cases m1
    | bor _ => cases m1
    | tok => cases m1
  · rw [envOf_len ss _ hl]
    unfold L2.start
    rw [List.length_append, List.length_map, List.length_replicate, hv]
    omega
/-- a def by its body -/
theorem Fd.core {nm qual : Str} {st : Stmt} {f : Addr} {fd : FuncData} {N ps : List Str} {k : Nat} {sp : DSp} (F : Fun K nm qual st f fd) (hm : mg nm = some (.ref f)) (S : FnScope N ps (defScope st)) (b : Binds K fd ps []) (len : ∀ ss x Q, sp ss x Q → ss.length = ps.length)
    (hbody : ∀ (cdv : Value) (A : Around) (outer : List Env) (s : Shared) (H : Hp) (E : XK), Room k (A.deeper (envOfC qual (defScope st) s.heap.objs.size f cdv)) →
      ∃ t τ, DSs K mg (WX0 E) (cxOf (L2.CX P w) P w K mg base N qual (defScope st) f cdv A outer s H E) (defBody st) t τ ∧ ∀ ss x Qd, sp ss x Qd → τ x { nx := fun _ => Qd (.dat .none), rt := Qd } (envOf ss N.length)) : FnOk P w K mg base (L2.CX P w) (k + 1) f fd ps (spD K mg sp) := by
  refine F.okX S (fun vs H Q E h => ?_) fun cdv A outer s H vs Q E hr h => ?_
  · obtain ⟨Z, G, ss, x, Qd, o, hv, _, h, _⟩ := h
    rw [hv.length]
    exact len ss x Qd h
  · obtain ⟨t, τ, d, sem⟩ := hbody cdv A outer s H E hr
    obtain ⟨Z, G, ss, x, Qd, o, hv, ha, h, k1, k2⟩ := h
    have hl : ss.length ≤ N.length := by
      rw [len ss x Qd h]
      have q := congrArg List.length S.pre
      rw [List.length_take] at q
      omega
    refine ⟨t, d.pe, d.sem Z G H x (fun nm fs C d' σ' G' H' h1 h2 h3 h4 h5 => k2 nm fs C d' G' H' h1 h2 h3 h4 h5) { nx := fun _ H' => Q .non H', rt := Q } { nx := fun _ => Qd (.dat .none), rt := Qd } ⟨fun σ ρ G' H' R q => ?_, k1, fun _ _ _ _ _ q => q.elim, fun _ _ _ _ _ q => q.elim⟩ _ _ G H (start_rel o hv ha hl) (sem ss x Qd h)⟩
    exact k1 (.dat .none) .non G' H' ⟨R.ext, R.ok, Dq.non, fun _ e => (by cases e), fun _ _ e => (by cases e)⟩ (fun _ e => by cases e) q
theorem Fd.mk' {nm qual : Str} {st : Stmt} {f : Addr} {fd : FuncData} {N ps : List Str} {k : Nat} {sp : DSp} (F : Fun K nm qual st f fd) (hm : mg nm = some (.ref f)) (S : FnScope N ps (defScope st)) (b : Binds K fd ps []) (len : ∀ ss x Q, sp ss x Q → ss.length = ps.length)
    (hbody : ∀ (cdv : Value) (A : Around) (outer : List Env) (s : Shared) (H : Hp) (E : XK), Room k (A.deeper (envOfC qual (defScope st) s.heap.objs.size f cdv)) →
      ∃ t τ, DSs K mg (WX0 E) (cxOf (L2.CX P w) P w K mg base N qual (defScope st) f cdv A outer s H E) (defBody st) t τ ∧ ∀ ss x Qd, sp ss x Qd → τ x { nx := fun _ => Qd (.dat .none), rt := Qd } (envOf ss N.length)) : Fd P w K mg base nm (k + 1) ps sp :=
  ⟨f, fd, hm, F.kp, b, Fd.core F hm S b len hbody⟩
theorem FdK.mk' {nm qual : Str} {st : Stmt} {f : Addr} {fd : FuncData} {N ps : List Str} {k : Nat} {sp : DSp} (F : Fun K nm qual st f fd) (hm : mg nm = some (.ref f)) (S : FnScope N ps (defScope st)) (b : Binds K fd ps []) (kb : KBinds K fd ps ps (fun us ws => us ++ ws) (fun vs zs => vs ++ zs)) (len : ∀ ss x Q, sp ss x Q → ss.length = ps.length)
    (hbody : ∀ (cdv : Value) (A : Around) (outer : List Env) (s : Shared) (H : Hp) (E : XK), Room k (A.deeper (envOfC qual (defScope st) s.heap.objs.size f cdv)) →
      ∃ t τ, DSs K mg (WX0 E) (cxOf (L2.CX P w) P w K mg base N qual (defScope st) f cdv A outer s H E) (defBody st) t τ ∧ ∀ ss x Qd, sp ss x Qd → τ x { nx := fun _ => Qd (.dat .none), rt := Qd } (envOf ss N.length)) : FdK P w K mg base nm (k + 1) ps sp :=
  ⟨f, fd, hm, F.kp, b, kb, Fd.core F hm S b len hbody⟩
end

/-- a promise for no arguments at all -/
theorem Fd.bot {P : Program} {w : World} {K : PySem.W.Frag} {mg : Str → Option Value} {base : Heap} {nm : Str} {k : Nat} {ps : List Str} {f : Addr} {fd : FuncData} (hm : mg nm = some (.ref f)) (hk : PySem.W.keepIn K (.ref f) = true) (b : Binds K fd ps []) : Fd P w K mg base nm k ps (fun _ _ _ => False) :=
  ⟨f, fd, hm, hk, b, fun _ _ _ _ h => by obtain ⟨_, _, _, _, _, _, _, _, h, _⟩ := h; exact h.elim, fun _ _ _ _ _ _ _ _ _ _ _ _ _ h => by obtain ⟨_, _, _, _, _, _, _, _, h, _⟩ := h; exact h.elim⟩

/-! ### calls -/
mutual
def solid : D → Bool
  | .none => true
  | .bool _ => true
  | .int _ => true
  | .str _ => true
  | .list _ => false
  | .tuple ds => solidAll ds
  | .dict _ => false
def solidAll : List D → Bool
  | [] => true
  | d :: ds => solid d && solidAll ds
end
def S.solid : S → Bool
  | .dat d => DL.solid d
  | .own ds => solidAll ds
  | .bor _ => false
  | .tok => true
  | .dct _ _ => false
def S.isBor : S → Bool
  | .bor _ => true
  | _ => false
def S.lay : S → S
  | .bor ds => .dat (.list ds)
  | s => s
def anyBor : List S → Bool
  | [] => false
  | .bor _ :: _ => true
  | _ :: r => anyBor r
def layAll : List S → List S
  | [] => []
  | s :: r => s.lay :: layAll r
def callQ (sp : DSp) (ss : List S) (x : Xn) (Q : S → Prop) : Prop := match anyBor ss with
  | false => sp ss x Q
  | true => sp (layAll ss) x fun s => s.solid = true ∧ Q s
def τCall (sp : DSp) (a : DTA) : DT := fun _ ρ Q => a x0 ρ fun ss => callQ sp ss x0 Q
def τCallX (sp : DSp) (a : DTA) : DT := fun x ρ Q => a x ρ fun ss => callQ sp ss x Q
section
variable {Z : Rg} {K : PySem.W.Frag} {G H : Hp}
mutual
theorem dp_minus {G G' : Hp} (h : ∀ b u, G b = some u → (∃ xs, u = .lst xs) ∨ G' b = some u) : ∀ (d : D) (v : V), solid d = true → Dq K G v d → Dq K G' v d
  | .none, _, _, h1 => by cases h1; exact .non
  | .bool _, _, _, h1 => by cases h1; exact .bl _
  | .int _, _, _, h1 => by cases h1; exact .int _
  | .str _, _, _, h1 => by cases h1; exact .str _
  | .list _, _, e, _ => by cases (show false = true by simpa [solid] using e)
  | .dict _, _, e, _ => by cases (show false = true by simpa [solid] using e)
  | .tuple ds, _, e, h1 => by
    cases h1 with
    | tup q1 q2 =>
      refine .tup ?_ (dpAll_minus h ds _ (by simpa [solid] using e) q2)
      rcases h _ _ q1 with ⟨xs, z⟩ | z
      · cases z
      · exact z
theorem dpAll_minus {G G' : Hp} (h : ∀ b u, G b = some u → (∃ xs, u = .lst xs) ∨ G' b = some u) : ∀ (ds : List D) (vs : List V), solidAll ds = true → DqAll K G vs ds → DqAll K G' vs ds
  | [], _, _, h1 => by cases h1; exact .nil
  | d :: ds, _, e, h1 => by
    cases h1 with
    | cons q1 q2 =>
      have e' : solid d = true ∧ solidAll ds = true := by simpa [solidAll] using e
      exact .cons (dp_minus h d _ e'.1 q1) (dpAll_minus h ds _ e'.2 q2)
end
/-- the borrowed lists' addresses -/
theorem bors : ∀ {vs : List V} {ss : List S}, SVs Z K G H vs ss → ∃ ls : List Addr, (∀ l ∈ ls, G l = none ∧ ¬ Z.has l ∧ ∃ xs, H l = some (.lst xs)) ∧
    ∀ Gc : Hp, (∀ b u, G b = some u → Gc b = some u) → (∀ l ∈ ls, Gc l = H l) → SVs Z K Gc H vs (layAll ss)
  | [], [], _ => ⟨[], fun _ h => by simp at h, fun _ _ _ => trivial⟩
  | v :: vs, s :: ss, h => by
    obtain ⟨ls, h1, h2⟩ := bors h.2
    cases s with
    | dat d => exact ⟨ls, h1, fun Gc a b => ⟨⟨dp_mono a d v h.1.1, rfl⟩, h2 Gc a b⟩⟩
    | own ds => cases h.1.2
    | dct t kvs => cases h.1.2
    | tok => exact ⟨ls, h1, fun Gc a b => ⟨⟨h.1.1, rfl⟩, h2 Gc a b⟩⟩
    | bor ds =>
      obtain ⟨l, xs, rfl, q1, q2, q3, q4⟩ := h.1.1
      refine ⟨l :: ls, fun m hm => ?_, fun Gc a b => ⟨⟨?_, rfl⟩, h2 Gc a fun m hm => b m (List.mem_cons_of_mem _ hm)⟩⟩
      · rcases List.mem_cons.mp hm with rfl | hm
        · exact ⟨q3, q4, xs, q1⟩
        · exact h1 m hm
      · exact Dq.lst (SqL.of ((b l List.mem_cons_self).trans q1)) (dpAll_mono a ds xs q2)
  | [], _ :: _, h => h.elim
  | _ :: _, [], h => h.elim
theorem lay_ok : ∀ {ss : List S}, (∀ s ∈ ss, s.mt = false) → ∀ s ∈ layAll ss, argOk s
  | [], _, _, h => by cases h
  | s :: ss, ho, t, h => by
    rcases List.mem_cons.mp h with rfl | h
    · cases s with
      | dat d => trivial
      | own ds => cases ho _ List.mem_cons_self
      | dct t kvs => cases ho _ List.mem_cons_self
      | bor ds => trivial
      | tok => trivial
    · exact lay_ok (fun u hu => ho u (List.mem_cons_of_mem _ hu)) t h
theorem noBor_ok : ∀ {ss : List S}, anyBor ss = false → (∀ s ∈ ss, s.mt = false) → ∀ s ∈ ss, argOk s
  | [], _, _, _, h => by cases h
  | s :: ss, hb, ho, t, h => by
    have hb' : anyBor ss = false := by
      cases s with
      | bor ds => cases hb
      | _ => exact hb
    rcases List.mem_cons.mp h with rfl | h
    · cases t with
      | dat d => trivial
      | own ds => cases ho _ List.mem_cons_self
      | dct t kvs => cases ho _ List.mem_cons_self
      | bor ds => cases hb
      | tok => trivial
    · exact noBor_ok hb' (fun u hu => ho u (List.mem_cons_of_mem _ hu)) t h
theorem svs_own : ∀ {vs : List V} {ss : List S}, SVs Z K G H vs ss → ∀ s ∈ ss, s.mt = false
  | [], [], _, _, h => by cases h
  | v :: vs, s :: ss, h, t, ht => by
    rcases List.mem_cons.mp ht with rfl | ht
    · exact h.1.2
    · exact svs_own h.2 t ht
  | [], _ :: _, h, _, _ => h.elim
  | _ :: _, [], h, _, _ => h.elim
/-- a call by the callee's promise -/
theorem call_sp {mg : Str → Option Value} {sp : DSp} {vs : List V} {ss : List S} {x : Xn} {Q : VK} {Qd : S → Prop} {E : XK} (o : Ok Z G H) (hv : SVs Z K G H vs ss) (h : callQ sp ss x Qd) (k : ∀ s v G' H', Got Z K G H G' H' v s → Qd s → Q v H')
    (kx : ∀ nm fs C d G' H', mg nm = some (.ref C) → x nm fs → Ext Z G H G' H' → Ok Z G' H' → XPay K H' d fs → E (.ref C) d H') : spD K mg sp vs H Q E := by
  unfold callQ at h
  split at h
  · rename_i hb
    exact ⟨Z, G, ss, x, Qd, o, hv, noBor_ok hb (svs_own hv), h, fun s v G' H' g _ q => k s v G' H' g q, kx⟩
  · obtain ⟨ls, h1, h2⟩ := bors hv
    have dl : ∀ b, Decidable (b ∈ ls) := fun b => inferInstance
    let Gc : Hp := fun b => if b ∈ ls then H b else G b
    have up : ∀ b u, G b = some u → Gc b = some u := fun b u e => by
      by_cases hb : b ∈ ls
      · rw [(h1 b hb).1] at e; cases e
      · show (if b ∈ ls then H b else G b) = some u
        rw [if_neg hb]; exact e
    have oc : Ok Z Gc H := by
      refine ⟨fun b u e => ?_, o.z, fun b hb => ?_⟩
      · by_cases hb : b ∈ ls
        · have e' : (if b ∈ ls then H b else G b) = some u := e
          rw [if_pos hb] at e'; exact e'
        · have e' : (if b ∈ ls then H b else G b) = some u := e
          rw [if_neg hb] at e'; exact o.s b u e'
      · show (if b ∈ ls then H b else G b) = none
        rw [if_neg (fun z => (h1 b z).2.1 hb)]
        exact o.d b hb
    -- what came, without the borrowed lists
    have back : ∀ {G' H' : Hp}, Ext Z Gc H G' H' → Ok Z G' H' → ∃ G2 : Hp, Ext Z G H G2 H' ∧ Ok Z G2 H' ∧ (∀ b u, G' b = some u → (∃ xs, u = .lst xs) ∨ G2 b = some u) ∧ ∀ b, G' b = none → G2 b = none := by
      intro G' H' e o'
      refine ⟨fun b => if b ∈ ls then none else G' b, ⟨fun b u q => ?_, e.h, fun b q => ?_, e.t⟩, ⟨fun b u q => ?_, o'.z, fun b hb => ?_⟩, fun b u q => ?_, fun b q => ?_⟩
      · have hb : ¬ b ∈ ls := fun hb => by rw [(h1 b hb).1] at q; cases q
        rw [if_neg hb]
        exact e.g b u (up b u q)
      · by_cases hb : b ∈ ls
        · exact absurd (if_pos hb) q
        · have q' : G' b ≠ none := by
            intro z
            apply q
            show (if b ∈ ls then none else G' b) = none
            rw [if_neg hb]; exact z
          rcases e.n b q' with r | r
          · have r' : (if b ∈ ls then H b else G b) ≠ none := r
            rw [if_neg hb] at r'
            exact .inl r'
          · exact .inr r
      · by_cases hb : b ∈ ls
        · have q' : (if b ∈ ls then none else G' b) = some u := q
          rw [if_pos hb] at q'; cases q'
        · have q' : (if b ∈ ls then none else G' b) = some u := q
          rw [if_neg hb] at q'; exact o'.s b u q'
      · show (if b ∈ ls then none else G' b) = none
        by_cases hb' : b ∈ ls
        · rw [if_pos hb']
        · rw [if_neg hb']; exact o'.d b hb
      · by_cases hb : b ∈ ls
        · obtain ⟨_, _, xs, hx⟩ := h1 b hb
          have q2 : Gc b = some (.lst xs) := by
            show (if b ∈ ls then H b else G b) = _
            rw [if_pos hb]; exact hx
          have q3 := e.g b _ q2
          rw [q] at q3
          exact .inl ⟨xs, Option.some.inj q3⟩
        · refine .inr ?_
          show (if b ∈ ls then none else G' b) = some u
          rw [if_neg hb]; exact q
      · show (if b ∈ ls then none else G' b) = none
        by_cases hb' : b ∈ ls
        · rw [if_pos hb']
        · rw [if_neg hb']; exact q
    refine ⟨Z, Gc, layAll ss, x, _, oc, h2 Gc up (fun l hl => ?_), lay_ok (svs_own hv), h, fun s v G' H' g nb q => ?_, fun nm fs C d G' H' a1 a2 a3 a4 a5 => ?_⟩
    · show (if l ∈ ls then H l else G l) = H l
      rw [if_pos hl]
    · obtain ⟨G2, e2, o2, m2, n2⟩ := back g.ext g.ok
      refine k s v G2 H' ⟨e2, o2, ?_, g.nw, g.nd⟩ q.2
      have sv := g.sv
      cases s with
      | dat d => exact dp_minus m2 d v q.1 sv
      | own ds =>
        obtain ⟨l, xs, rfl, b1, b2, b3, b4⟩ := sv
        exact ⟨l, xs, rfl, b1, dpAll_minus m2 ds xs q.1 b2, n2 l b3, b4⟩
      | bor ds => exact absurd rfl (nb ds)
      | tok => exact sv
      | dct t kvs => cases q.1
    · obtain ⟨G2, e2, o2, _⟩ := back a3 a4
      exact kx nm fs C d G2 H' a1 a2 e2 o2 a5
end
section
variable {K : PySem.W.Frag} {mg : Str → Option Value} {W : WX} {X : Cx} {pos p : Pos} {e : Expr} {es : List Expr} {ta : TA} {υ : DTA} {nm : Str} {k : Nat} {ps : List Str} {sp : DSp}
theorem de_call (F : Fd X.prog X.w K mg X.base nm k ps sp) (hr : Room k X.A) (hg : Gl X nm) (a : DA K mg WF X (e :: es) ta υ) (hdb : (nm == ("__debug__" : Str)) = false := by decide)
    (he : starEach (e :: es) X.env = (false, eval e X.env) :: starEach es X.env := by rfl) (hpl : (backTo pos (starEach es X.env)).any (·.1) = false := by rfl) (hK : X.K = K := by rfl) (hM : X.mg = mg := by rfl) :
    DE K mg W X (.Call (.Name nm p) (e :: es) [] pos) (tCall (spD K mg sp) [] E0 ta) (τCall sp υ) := by
  subst hK hM
  obtain ⟨f, fd, hm, hk, hb, G⟩ := F.ex
  refine ⟨pe_call G hr hg hm hk hb .nil passL a.pe hdb he hpl, fun Z G0 H0 x hx σ ρ G H Q Qd R h k => ?_⟩
  refine a.sem Z G0 H0 x0 XOk.no σ ρ G H _ _ R h fun ss vs G1 H1 e1 o1 hv h1 => ?_
  show spD X.K X.mg sp (vs ++ []) H1 Q E0
  rw [List.append_nil]
  exact call_sp o1 hv h1 (fun s v G' H' g q => k s v G' H' (.after e1 g) q) fun _ _ _ _ _ _ _ z => z.elim
theorem de_callX (tk : Takes X W) (F : Fd X.prog X.w K mg X.base nm k ps sp) (hr : Room k X.A) (hg : Gl X nm) (a : DA K mg W X (e :: es) ta υ) (hdb : (nm == ("__debug__" : Str)) = false := by decide)
    (he : starEach (e :: es) X.env = (false, eval e X.env) :: starEach es X.env := by rfl) (hpl : (backTo pos (starEach es X.env)).any (·.1) = false := by rfl) (hK : X.K = K := by rfl) (hM : X.mg = mg := by rfl) :
    DE K mg W X (.Call (.Name nm p) (e :: es) [] pos) (tCallS (spD K mg sp) (WE W) ta) (τCallX sp υ) := by
  subst hK hM
  obtain ⟨f, fd, hm, hk, hb, G⟩ := F.ex
  refine ⟨pe_callS G hr hg hm hk hb (fun σ => passAt tk σ) a.pe hdb he hpl, fun Z G0 H0 x hx σ ρ G H Q Qd R h k => ?_⟩
  refine a.sem Z G0 H0 x hx σ ρ G H _ _ R h fun ss vs G1 H1 e1 o1 hv h1 => ?_
  exact call_sp o1 hv h1 (fun s v G' H' g q => k s v G' H' (.after e1 g) q) fun nm fs C d G' H' h1 h2 h3 h4 h5 => hx nm fs C d σ G' H' h1 h2 (R.ext.trans (e1.trans h3)) h4 h5
/-- a call with names alone -/
theorem pe_callKW0 {X : Cx} {CX : CXT} {k : Nat} {f : Addr} {fd : FuncData} {ps ks : List Str} {sp : Sp} {E : XK} {x : Str} {p pos : Pos} {g : List Value → List Value → List Value} {gV : List V → List V → List V} {kws : List Keyword} {tk : TA}
    (F : FnOk X.prog X.w X.K X.mg X.base CX k f fd ps sp) (hr : Room k X.A) (hg : Gl X x) (hm : X.mg x = some (.ref f)) (hk : PySem.W.keepIn X.K (.ref f) = true) (hb : KBinds X.K fd ps ks g gV) (hx : Passes CX X E) (kw : PK X kws tk)
    (h1 : (backToKw pos (keywordEach kws X.env)).all (·.1.isSome) = true := by rfl) (h2 : (backToKw pos (keywordEach kws X.env)).filterMap (·.1) = ks := by rfl) (h3 : (x == ("__debug__" : Str)) = false := by decide)
    (h4 : ((backTo pos (starEach [] X.env)).any (·.1) || (backToKw pos (keywordEach kws X.env)).any (·.1.isNone)) = false := by rfl) : PE X (.Call (.Name x p) [] kws pos) (tCallK sp gV E tNil tk) := by
  refine ⟨fun pins s σ H Q I h => ?_⟩
  refine wpAny_Call_Name_kw (ld_glob I hg hm ?_ h3)
  refine PySem.W.callWith_KW0 (h₀ := X.base) I.ok.mod.kin hk h1 (thn (kw.run pos pins s σ H _ I h) fun ws s2 ⟨zs, H2, I2, rz, q2⟩ => ⟨I2.kIn, ?_⟩) h4
  rw [h2]
  exact run_fnk (us := []) (vs := []) F hr hb hx I2 .nil rz q2
/-- f(k = e): one parameter by its name -/
theorem de_call1k {q : Pos} {te : TE} {τe : DT} {y : Str} (F : FdK X.prog X.w K mg X.base nm k [y] sp) (hr : Room k X.A) (hg : Gl X nm) (a : DE K mg WF X e te τe)
    (hpe : ∀ (f : Addr) (fd : FuncData), mg nm = some (.ref f) → PySem.W.keepIn K (.ref f) = true → KBinds K fd [y] [y] (fun us ws => us ++ ws) (fun vs zs => vs ++ zs) → FnOk X.prog X.w K mg X.base (L2.CX X.prog X.w) k f fd [y] (spD K mg sp) → PE X e te → PE X (.Call (.Name nm p) [] [⟨some y, e, q⟩] pos) (tCallK (spD K mg sp) (fun vs zs => vs ++ zs) E0 tNil (tCons te tNil))) (hK : X.K = K := by rfl) (hM : X.mg = mg := by rfl) :
    DE K mg W X (.Call (.Name nm p) [] [⟨some y, e, q⟩] pos) (tCallK (spD K mg sp) (fun vs zs => vs ++ zs) E0 tNil (tCons te tNil)) (τCall sp (τCons τe τNil)) := by
  subst hK hM
  obtain ⟨f, fd, hm, hk, hb, kb, G⟩ := F.ex
  refine ⟨hpe f fd hm hk kb G a.pe, fun Z G0 H0 x hx σ ρ G H Q Qd R h k => ?_⟩
  refine a.sem Z G0 H0 x0 XOk.no σ ρ G H _ _ R h fun s v G1 H1 g1 h1 => ?_
  obtain ⟨G2, g2, _⟩ := g1.fz
  exact call_sp g2.ok (vs := [v]) (ss := [s.fz]) ⟨⟨g2.sv, (consQ_fz h1).1⟩, trivial⟩ (consQ_fz h1).2 (fun s v G' H' g q => k s v G' H' (.after g2.ext g) q) fun _ _ _ _ _ _ _ z => z.elim
end
end DL

set_option Elab.async false
set_option linter.all false
set_option maxRecDepth 100000
set_option maxHeartbeats 4000000
/-! DL7: sorted, max with a default, isinstance, bit_length, list(range(..)). -/
namespace DL
open PySem PySem.Spec PyProof.Rows L2

/-! ### sorted -/
/-- a list of values that read as data: pairs (value, datum) -/
def rSortD (K : PySem.W.Frag) : List V → Hp → VK → Prop := fun vs H Q => ∃ (a : Addr) (bs : List (V × D)), vs = [V.ref a] ∧ SqL K H a (bs.map (·.1)) ∧ DqAll K H (bs.map (·.1)) (bs.map (·.2)) ∧
  (2 ≤ bs.length → PySem.W.AllAlike (bs.map (·.2)) ∧ PySem.W.Sortable (bs.map (·.2))) ∧ (∀ b ∈ bs, b.2.depth ≤ 60) ∧ ∀ p, H p = none → Q (.ref p) (upd H p (.lst ((bs.mergeSort (PySem.W.dataLe false (·.2))).map (·.1))))
theorem each_vals {vs : List V} {us : List Value} : ∀ {bs : List (V × D)}, Vals (bs.map (·.1)) us → PySem.W.EachIs (fun u b => RelV b.1 u) us bs
  | [], h => by cases h; exact .nil
  | b :: bs, h => by
    cases h with
    | cons h1 h2 => exact .cons h1 (each_vals (vs := vs) h2)
theorem vals_each {us : List Value} : ∀ {bs : List (V × D)}, PySem.W.EachIs (fun u b => RelV b.1 u) us bs → Vals (bs.map (·.1)) us
  | [], h => by cases h; exact .nil
  | b :: bs, h => by
    cases h with
    | cons h1 h2 => exact .cons h1 (vals_each h2)
mutual
theorem alike_noD : ∀ d : D, PySem.W.alike d d = true → noD d = true
  | .none, _ => rfl
  | .bool _, _ => rfl
  | .int _, _ => rfl
  | .str _, _ => rfl
  | .list ds, h => by rw [noD]; exact alike_noDs ds (by simpa [PySem.W.alike] using h)
  | .tuple ds, h => by rw [noD]; exact alike_noDs ds (by simpa [PySem.W.alike] using h)
  | .dict _, h => by simp [PySem.W.alike] at h
theorem alike_noDs : ∀ ds : List D, PySem.W.alikeAll ds ds = true → noDs ds = true
  | [], _ => rfl
  | d :: ds, h => by
    have q : PySem.W.alike d d = true ∧ PySem.W.alikeAll ds ds = true := by simpa [PySem.W.alikeAll] using h
    rw [noDs, alike_noD d q.1, alike_noDs ds q.2]
    rfl
end
theorem noDs_of : ∀ {ds : List D}, (∀ d ∈ ds, noD d = true) → noDs ds = true
  | [], _ => rfl
  | d :: ds, h => by
    rw [noDs, h d List.mem_cons_self, noDs_of fun c hc => h c (List.mem_cons_of_mem _ hc)]
    rfl
theorem allAlike_noDs {ds : List D} (h : PySem.W.AllAlike ds) : noDs ds = true := noDs_of fun d hd => alike_noD d (h d hd d hd)
theorem each_reads {X : Cx} {pins : List (Addr × Obj)} {σ : L2.St} {H : Hp} {s : Shared} (I : Inv X pins σ H s) : ∀ {us : List Value} {bs : List (V × D)}, DqAll X.K H (bs.map (·.1)) (bs.map (·.2)) → noDs (bs.map (·.2)) = true → PySem.W.EachIs (fun u b => RelV b.1 u) us bs →
    PySem.W.EachIs (fun u b => ∃ as, Reads s.heap u b.2 as) us bs
  | _, [], _, _, h => by cases h; exact .nil
  | _, b :: bs, d, n, h => by
    cases h with
    | cons h1 h2 =>
      cases d with
      | cons d1 d2 =>
        have n' : noD b.2 = true ∧ noDs (bs.map (·.2)) = true := by simpa [noDs] using n
        exact .cons (Dp.reads I b.2 b.1 _ (d1.dp n'.1) h1) (each_reads I d2 n'.2 h2)
/-! a tuple's items -/
section
variable {prog : Program} {w : World} {A : Around} {E : Value → Shared → Prop} {s : Shared}
theorem collectT {tp : Addr} {us : List Value} {Q : List Value → Shared → Prop} (ht : s.heap.IsTuple tp us.toArray) (hlen : us.length ≤ sizeLine)
    (q : Q us { s with heap := (s.heap.push (seqObj "list" #[] 0)).update s.heap.objs.size (Obj.mapSeq (· ++ us.toArray)) }) :
    wpAny (model prog w) A (collect (.ref tp)) Q E s := by
  obtain ⟨ob, e0, ec, m, ed⟩ := id ht
  have e1 : (s.heap.push (seqObj "list" #[] 0)).get? tp = some ob := Heap.get?_push_of_some _ e0
  have nw : (s.heap.push (seqObj "list" #[] 0)).get? s.heap.objs.size = some (seqObj "list" #[] 0) := Heap.get?_push_size _ rfl
  unfold collect
  refine wpAny_bind (wpAny_runValue (codeAny_builtin entry_proto_collect' ?_))
  change wpAny _ _ (do again (.builtin "list.__iadd__" ⟨[← newList [], .ref tp], []⟩)) _ _ s
  refine wpAny_bind (wpAny_newList (wpAny_pure ⟨Code.quiet_builtin _ (by decide +kernel), codeAny_builtin entry_list_iadd' ?_⟩))
  change wpAny _ _ (Builtin.List.listExtendWith (.ref s.heap.objs.size) (.ref tp) (.ref s.heap.objs.size)) _ _ { s with heap := s.heap.push (seqObj "list" #[] 0) }
  unfold Builtin.List.listExtendWith
  refine wpAny_bind (wpAny_typeOf (T := "tuple") ⟨ob, e1, ec⟩ ?_)
  rw [if_pos (by rw [show (Value.type "tuple" == Value.type "tuple") = true from rfl]; simp)]
  refine wpAny_bind (listItems_at e1 ed ?_)
  refine wpAny_bind (listItems_at (xs := #[]) (n := 0) nw rfl ?_)
  rw [if_neg (by simp)]
  refine wpAny_bind (listUpdate_at (xs := #[]) (n := 0) nw rfl ?_ (Nat.zero_le _) (by show (#[] ++ us.toArray).size ≤ sizeLine + 1; simp only [Array.size_append, List.size_toArray, List.length_nil]; omega))
  refine wpAny_pure ?_
  change wpAny (model prog w) A (load s.heap.objs.size >>= _) Q E { s with heap := (s.heap.push (seqObj "list" #[] 0)).update s.heap.objs.size (Obj.mapSeq (· ++ us.toArray)) }
  refine wpAny_bind (wpAny_load (get?_update_seq nw _) ?_)
  change wpAny _ _ (pure ((#[] : Array Value) ++ us.toArray).toList) Q E _
  rw [show ((#[] : Array Value) ++ us.toArray).toList = us by simp]
  exact wpAny_pure q
theorem sortedT {tp : Addr} {us : List Value} {κ : PyProof.Rows.KeyKind} {Q : Value → Shared → Prop} (ht : s.heap.IsTuple tp us.toArray) (hlen : us.length ≤ sizeLine) (S : PySem.W.SortsAt prog w A.in1.in1 { s with heap := PySem.W.sortingHeap (PySem.W.copyHeap s.heap us) (s.heap.objs.size + 1) us } κ us)
    (q : Q (.ref (s.heap.objs.size + 1)) { s with heap := sortedAll s.heap us (PySem.W.sortVals κ false us us).toArray }) : wpAny (model prog w) A (call (.builtin "sorted") [.ref tp]) Q E s := by
  refine call_function_entry_kw kind_sorted plain_sorted entry_sorted (args_sorted1 _) ?_
  unfold Builtin.«sorted»
  refine wpAny_bind (m := checkCount "sorted" 1 1 _) (wpAny_pure ?_)
  refine wpAny_bind (collectT ht hlen ?_)
  refine wpAny_bind (wpAny_newList ?_ hlen)
  have e2 : ((s.heap.push (seqObj "list" #[] 0)).update s.heap.objs.size (Obj.mapSeq (· ++ us.toArray))).objs.size = s.heap.objs.size + 1 := by
    rw [Heap.size_update, size_push']
  change wpAny _ _ _ _ _ { s with heap := PySem.W.copyHeap s.heap us }
  rw [e2]
  refine wpAny_bind (wpAny_holding (wpAny_call_entry_kw slot_list_sort ⟨_, PySem.W.copyHeap_at s.heap us, rfl⟩ entry_list_sort ?bd (args_list_sort _)))
  case bd =>
    refine wpAny_mono (PySem.W.list_sort_vals (s := { s with heap := PySem.W.copyHeap s.heap us }) (P := fun f s' => f = .done (.ret .none) ∧ Q (.ref (s.heap.objs.size + 1)) s') (PySem.W.copyHeap_at s.heap us) S hlen ⟨rfl, q⟩) (fun f s' hf => ?_) fun _ _ e => e
    obtain ⟨rfl, hq⟩ := hf
    exact ⟨_, rfl, wpAny_pure ⟨_, rfl, hq⟩⟩
end
theorem perm_short {α : Type} : ∀ {l m : List α}, l.Perm m → m.length < 2 → l = m
  | l, [], h, _ => h.eq_nil
  | l, [x], h, _ => List.perm_singleton.mp h
  | _, _ :: _ :: _, _, h => absurd h (by simp)
theorem sort_short {α : Type} {le : α → α → Bool} {l : List α} (h : l.length < 2) : l.mergeSort le = l := perm_short (List.mergeSort_perm l le) h
section
variable {X : Cx}
theorem cr_sortD (hu : X.A.units + 65 < cLine) : CallR X (.builtin "sorted") (rSortD X.K) := by
  intro pins s σ H vs us Q I r h
  obtain ⟨a, bs, rfl, hs, hd, hk, hdep, q⟩ := h
  obtain ⟨its, rv, hl, hz⟩ := I.list hs
  rw [Vals.ref1 r]
  have ev : PySem.W.EachIs (fun u b => RelV b.1 u) its bs := each_vals (vs := []) rv
  rw [List.length_map] at hz
  -- the new list stands
  have fin : ∀ out : List Value, PySem.W.EachIs (fun u b => RelV b.1 u) out (bs.mergeSort (PySem.W.dataLe false (·.2))) → EP X pins σ Q (.ref (s.heap.objs.size + 1)) { s with heap := sortedAll s.heap its out.toArray } := by
    intro out eo
    obtain ⟨ep, he⟩ := PyProof.Rows.sortedAll_at s.heap its out.toArray
    refine ⟨.ref _, upd H (s.heap.objs.size + 1) (.lst ((bs.mergeSort (PySem.W.dataLe false (·.2))).map (·.1))), I.laid (t' := s.toks) (fun _ _ => PyProof.Rows.sortedAll_old) (Nat.le_succ _) ⟨?_, out, ep, vals_each eo, he⟩, rfl, q _ (I.hok.fresh (Nat.le_succ _))⟩
    rw [List.length_map, List.length_mergeSort]
    exact hz
  by_cases h2 : 2 ≤ bs.length
  · obtain ⟨h3, h4⟩ := hk h2
    exact PySem.W.sorted_data hl.isList ev (each_reads I hd (allAlike_noDs h3) ev) h3 h4 hz (fun b hb => by have := hdep b hb; omega) fun out _ eo => fin out eo
  · have hlen := ev.length
    refine SrtO.sorted_ord (ltv := fun _ _ => false) ⟨fun _ _ _ => rfl, fun _ _ _ _ _ => rfl⟩ hl.isList (by omega) (fun h3 => by omega) fun out _ st => ?_
    have eo := perm_short st.perm (by omega)
    subst eo
    refine fin out ?_
    rw [sort_short (by omega)]
    exact ev
def rSortT (K : PySem.W.Frag) : List V → Hp → VK → Prop := fun vs H Q => ∃ (a : Addr) (bs : List (V × D)), vs = [V.ref a] ∧ SqT K H a (bs.map (·.1)) ∧ DqAll K H (bs.map (·.1)) (bs.map (·.2)) ∧
  (PySem.W.AllAlike (bs.map (·.2)) ∧ PySem.W.Sortable (bs.map (·.2))) ∧ (∀ b ∈ bs, b.2.depth ≤ 60) ∧ ∀ p, H p = none → Q (.ref p) (upd H p (.lst ((bs.mergeSort (PySem.W.dataLe false (·.2))).map (·.1))))
theorem cr_sortT (hu : X.A.units + 65 < cLine) : CallR X (.builtin "sorted") (rSortT X.K) := by
  intro pins s σ H vs us Q I r h
  obtain ⟨a, bs, rfl, hs, hd, hk, hdep, q⟩ := h
  obtain ⟨its, rv, hl, hz⟩ := I.tuple hs
  rw [Vals.ref1 r]
  have ev : PySem.W.EachIs (fun u b => RelV b.1 u) its bs := each_vals (vs := []) rv
  rw [List.length_map] at hz
  have fin : ∀ out : List Value, PySem.W.EachIs (fun u b => RelV b.1 u) out (bs.mergeSort (PySem.W.dataLe false (·.2))) → EP X pins σ Q (.ref (s.heap.objs.size + 1)) { s with heap := sortedAll s.heap its out.toArray } := by
    intro out eo
    obtain ⟨ep, he⟩ := PyProof.Rows.sortedAll_at s.heap its out.toArray
    refine ⟨.ref _, upd H (s.heap.objs.size + 1) (.lst ((bs.mergeSort (PySem.W.dataLe false (·.2))).map (·.1))), I.laid (t' := s.toks) (fun _ _ => PyProof.Rows.sortedAll_old) (Nat.le_succ _) ⟨?_, out, ep, vals_each eo, he⟩, rfl, q _ (I.hok.fresh (Nat.le_succ _))⟩
    rw [List.length_map, List.length_mergeSort]
    exact hz
  have rd := each_reads I hd (allAlike_noDs hk.1) ev
  have rd' : PySem.W.EachIs (fun u b => ∃ as, Reads (PySem.W.sortingHeap (PySem.W.copyHeap s.heap its) (s.heap.objs.size + 1) its) u b.2 as) its bs := rd.mono fun _ _ ⟨as, q⟩ => ⟨as, PyProof.Rows.Reads.keeps (fun _ _ => PySem.W.sorting_copy_old) q⟩
  refine sortedT (κ := PySem.W.dataKind (PySem.W.sortingHeap (PySem.W.copyHeap s.heap its) (s.heap.objs.size + 1) its) (bs.map (·.2))) hl (by rw [ev.length]; exact hz) (PySem.W.SortsAt.data (s := { s with heap := PySem.W.sortingHeap (PySem.W.copyHeap s.heap its) (s.heap.objs.size + 1) its }) (PySem.W.each_map (R := fun v d => ∃ as, Reads (PySem.W.sortingHeap (PySem.W.copyHeap s.heap its) (s.heap.objs.size + 1) its) v d as) (fun c : V × D => c.2) rd') hk.1 hk.2 (fun d hd => ?_)) ?_
  · obtain ⟨b, hb, rfl⟩ := List.mem_map.mp hd
    have := hdep b hb
    show X.A.units + 2 + b.2.depth < cLine
    omega
  · exact fin _ (PySem.W.sortVals_data false ev rd' hk.1)
end
/-- the order of data -/
def leD : D → D → Bool := PySem.W.dataLe false (fun d => d)
def sortD (ds : List D) : List D := ds.mergeSort leD
def bSorted : List S → (S → Prop) → Prop := fun ss Q => match ss with
  | [s] => (match s.d with
    | .list ds => ((2 ≤ ds.length → PySem.W.AllAlike ds ∧ PySem.W.Sortable ds) ∧ ∀ d ∈ ds, d.depth ≤ 60) ∧ Q (.own (sortD ds))
    | .tuple ds => ((PySem.W.AllAlike ds ∧ PySem.W.Sortable ds) ∧ ∀ d ∈ ds, d.depth ≤ 60) ∧ Q (.own (sortD ds))
    | _ => False)
  | _ => False
theorem zip_fst : ∀ {xs : List V} {ds : List D}, xs.length = ds.length → (xs.zip ds).map (·.1) = xs
  | [], [], _ => rfl
  | x :: xs, d :: ds, h => congrArg (x :: ·) (zip_fst (by simpa using h))
  | [], _ :: _, h => by simp at h
  | _ :: _, [], h => by simp at h
theorem zip_snd : ∀ {xs : List V} {ds : List D}, xs.length = ds.length → (xs.zip ds).map (·.2) = ds
  | [], [], _ => rfl
  | x :: xs, d :: ds, h => congrArg (d :: ·) (zip_snd (by simpa using h))
  | [], _ :: _, h => by simp at h
  | _ :: _, [], h => by simp at h
theorem dpAll_of {K : PySem.W.Frag} {G : Hp} : ∀ {bs : List (V × D)}, (∀ b ∈ bs, Dq K G b.1 b.2) → DqAll K G (bs.map (·.1)) (bs.map (·.2))
  | [], _ => .nil
  | b :: bs, h => .cons (h b List.mem_cons_self) (dpAll_of fun c hc => h c (List.mem_cons_of_mem _ hc))
theorem dpAll_mem {K : PySem.W.Frag} {G : Hp} : ∀ {xs : List V} {ds : List D}, DqAll K G xs ds → ∀ b ∈ xs.zip ds, Dq K G b.1 b.2
  | _, _, .nil, b, h => by simp at h
  | _, _, .cons h1 h2, b, h => by
    rw [List.zip_cons_cons] at h
    rcases List.mem_cons.mp h with rfl | h
    · exact h1
    · exact dpAll_mem h2 b h
def rSortA (K : PySem.W.Frag) : List V → Hp → VK → Prop := fun vs H Q => rSortD K vs H Q ∨ rSortT K vs H Q
theorem cr_sort {X : Cx} (hu : X.A.units + 65 < cLine) : CallR X (.builtin "sorted") (rSortA X.K) := by
  intro pins s σ H vs us Q I r h
  rcases h with h | h
  · exact cr_sortD hu pins s σ H vs us Q I r h
  · exact cr_sortT hu pins s σ H vs us Q I r h
theorem sort_new {Z : Rg} {K : PySem.W.Frag} {G H : Hp} {xs : List V} {ds : List D} {Q : VK} {Qd : S → Prop} (o : Ok Z G H) (q2 : DqAll K G xs ds) (b : Qd (.own (sortD ds))) (k : ∀ s' v' G' H', Got Z K G H G' H' v' s' → Qd s' → Q v' H') (p : Addr) (hp : H p = none) :
    Q (.ref p) (upd H p (.lst (((xs.zip ds).mergeSort (PySem.W.dataLe false (·.2))).map (·.1)))) := by
  have e2 := zip_snd q2.length
  have em : ((xs.zip ds).mergeSort (PySem.W.dataLe false (·.2))).map (·.2) = sortD ds := by
    have em := PySem.W.sort_maps (r := PySem.W.dataLe false (fun c : V × D => c.2)) (s := leD) (fun c : V × D => c.2) (l := xs.zip ds) (fun _ _ _ _ => rfl)
    rw [e2] at em
    exact em
  have dm : DqAll K G (((xs.zip ds).mergeSort (PySem.W.dataLe false (·.2))).map (·.1)) (sortD ds) := by
    rw [← em]
    exact dpAll_of fun c hc => dpAll_mem q2 c ((List.mergeSort_perm _ _).mem_iff.mp hc)
  exact k _ _ _ _ (.newL o hp dm) b
theorem lift_sorted {K : PySem.W.Frag} : LiftA K (rSortA K) bSorted := by
  intro Z G H vs ss Q Qd o h b k
  unfold bSorted at b
  split at b
  · obtain ⟨v, rfl, h1⟩ := svs1 h
    split at b
    · rename_i ds e
      obtain ⟨a, xs, rfl, q1, q2⟩ := h1.list o e
      have e1 := zip_fst q2.length
      have e2 := zip_snd q2.length
      refine .inl ⟨a, xs.zip ds, rfl, by rw [e1]; exact q1, by rw [e1, e2]; exact dpAll_mono o.s ds xs q2, fun h2 => ?_, fun c hc => ?_, fun p hp => sort_new o q2 b.2 k p hp⟩
      · rw [e2]
        exact b.1.1 (by rw [← e2, List.length_map]; exact h2)
      · exact b.1.2 c.2 (by rw [← e2]; exact List.mem_map_of_mem hc)
    · rename_i ds e
      obtain ⟨a, xs, rfl, q1, q2⟩ := h1.tup o e
      have e1 := zip_fst q2.length
      have e2 := zip_snd q2.length
      refine .inr ⟨a, xs.zip ds, rfl, by rw [e1]; exact sqT_mono o.s q1, by rw [e1, e2]; exact dpAll_mono o.s ds xs q2, by rw [e2]; exact b.1.1, fun c hc => ?_, fun p hp => sort_new o q2 b.2 k p hp⟩
      exact b.1.2 c.2 (by rw [← e2]; exact List.mem_map_of_mem hc)
    · exact b.elim
  · exact b.elim

/-! ### max(xs, default = d) of ints -/
def rMaxDef (K : PySem.W.Frag) : List V → List V → Hp → VK → Prop := fun vs zs H Q => ∃ (a : Addr) (ns : List Int) (m : Int), vs = [V.ref a] ∧ zs = [.int m] ∧ SqL K H a (ns.map V.int) ∧ (ns = [] → Q (.int m) H) ∧ ∀ x xs, ns = x :: xs → Q (.int (PySem.W.maxOf x xs)) H
theorem holdAll_ints {h : Heap} : ∀ {ns : List Int} {us : List Value}, Vals (ns.map V.int) us → PySem.W.HoldAll h us ns := by
  intro ns us r
  suffices q : ReadsAll h us (ns.map PySem.W.Datum.toD) [] from ⟨[], q⟩
  induction ns generalizing us with
  | nil => cases r; exact .nil
  | cons n ns ih =>
    cases r with
    | cons r1 r2 =>
      obtain ⟨t, rfl⟩ := r1
      exact .cons (as := []) (bs := []) (.int n t) (ih r2)
section
variable {X : Cx}
theorem cr_maxDef (hu : X.A.units + 65 < cLine) (hc : X.calm = true) : CallRK X (.builtin "max") [Str.ofString "default"] (rMaxDef X.K) := by
  intro pins s σ H xs zs us ws Q I r rz h
  obtain ⟨a, ns, m, rfl, rfl, hs, q0, q1⟩ := h
  obtain ⟨its, rv, hl, hz⟩ := I.list hs
  rw [Vals.ref1 r]
  cases rz with
  | cons r1 r2 =>
    cases r2
    obtain ⟨t, rfl⟩ := r1
    have kp : ∀ {h' : Heap} {tk : Nat}, (∀ b o, s.heap.get? b = some o → h'.get? b = some o) → Inv X pins σ H { s with heap := h', toks := tk } := fun hk => I.kept hk
    refine PySem.W.max_list_datum_default (I.ok.hd hc) hl.isList (xs := ns) (by simpa using holdAll_ints rv) (by show X.A.units + 1 + 0 < cLine; omega) (fun e h' tk hk => ⟨.int m, H, kp hk, ⟨t, rfl⟩, q0 e⟩) fun y ys i v h' tk e hv hh hk => ?_
    refine ⟨.int (PySem.W.maxOf y ys), H, kp hk, ?_, q1 y ys e⟩
    obtain ⟨as, rd⟩ := hh
    have rd' : Reads h' v (.int (PySem.W.maxOf y ys)) as := rd
    cases rd'
    exact ⟨_, rfl⟩
end
def bMaxDef : S → S → (S → Prop) → Prop := fun s t Q => match t with
  | .dat (.int m) => ∃ ns : List Int, s.d = .list (ns.map PyData.int) ∧ Q (.dat (.int (match ns with | [] => m | x :: xs => PySem.W.maxOf x xs)))
  | _ => False
section
variable {K : PySem.W.Frag} {mg : Str → Option Value} {W : WX} {X : Cx} {pos p kp : Pos} {e f : Expr} {te tf : TE} {τe τf : DT}
theorem de_maxDef (hr : X.A.units + 65 < cLine) (hc : X.calm = true) (hg : Gl X "max") (hm : X.mg "max" = none) (a : DE K mg W X e te τe) (b : DE K mg W X f tf τf)
    (s1 : starEach [e] X.env = (false, eval e X.env) :: starEach [] X.env := by rfl) (pk : PE X f tf → PK X [⟨some "default", f, kp⟩] (tCons tf tNil) := by exact fun h => pk_cons h pk_nil)
    (he : backTo pos (starEach [e] X.env) = (false, eval e X.env) :: backTo pos (starEach [] X.env) := by rfl) (hpl : (backTo pos (starEach [e] X.env)).any (·.1) = false := by rfl)
    (hall : (backToKw pos (keywordEach [⟨some "default", f, kp⟩] X.env)).all (·.1.isSome) = true := by rfl) (hnone : (backToKw pos (keywordEach [⟨some "default", f, kp⟩] X.env)).any (·.1.isNone) = false := by rfl)
    (hks : (backToKw pos (keywordEach [⟨some "default", f, kp⟩] X.env)).filterMap (·.1) = [Str.ofString "default"] := by rfl) (hK : X.K = K := by rfl) :
    DE K mg W X (.Call (.Name "max" p) [e] [⟨some "default", f, kp⟩] pos) (tCKw (rMaxDef K) (tCons te tNil) (tCons tf tNil)) (τOp bMaxDef τe τf) := by
  subst hK
  refine ⟨pe_callBK (cr_maxDef hr hc) hg hm boot_max (pa_cons a.pe pa_nil s1) (pk b.pe) (by decide) (by decide) he hpl hall hnone hks, fun Z G0 H0 x hx σ ρ G H Q Qd R h k => ?_⟩
  refine a.sem Z G0 H0 x hx σ ρ G H _ _ R h fun s v G1 H1 g1 h1 => ?_
  refine b.sem Z G0 H0 x hx σ ρ G1 H1 _ _ (R.mono g1.ext g1.ok) h1 fun t u G2 H2 g2 h2 => ?_
  have e2 := g1.ext.trans g2.ext
  unfold bMaxDef at h2
  split at h2
  · obtain ⟨ns, es, h2⟩ := h2
    obtain ⟨l, xs, rfl, q1, q2⟩ := (g1.sv.mono g2.ext).list g2.ok es
    rw [q2.ints] at q1
    exact ⟨l, ns, _, rfl, by rw [g2.sv.int], q1, fun e => by subst e; exact k _ _ G2 H2 (.after e2 (.here g2.ok (.int _))) h2, fun x xs e => by subst e; exact k _ _ G2 H2 (.after e2 (.here g2.ok (.int _))) h2⟩
  · exact h2.elim

/-! ### x.bit_length() -/
def τBits (a : DT) : DT := fun x ρ Q => a x ρ fun s => match s with | .dat (.int i) => Q (.dat (.int (Builtin.Int.intBits i : Nat))) | _ => False
theorem de_bits {apos : Pos} (a : DE K mg W X e te τe) (hbase : attributeBase e "bit_length" X.env (eval e X.env) = eval e X.env := by rfl) (hline : (apos.endLine == pos.line) = true := by rfl) :
    DE K mg W X (.Call (.Attribute e "bit_length" apos) [] [] pos) (tBits te) (τBits τe) := by
  refine ⟨pe_bits a.pe hbase hline, fun Z G0 H0 x hx σ ρ G H Q Qd R h k => ?_⟩
  refine a.sem Z G0 H0 x hx σ ρ G H _ _ R h fun s v G1 H1 g1 h1 => ?_
  split at h1
  · exact ⟨_, g1.sv.int, k _ _ G1 H1 (.after g1.ext (.here g1.ok (.int _))) h1⟩
  · exact h1.elim

/-! ### -x, ~x -/
def τUn (f : Int → Int) (a : DT) : DT := fun x ρ Q => a x ρ fun s => match s with | .dat (.int i) => Q (.dat (.int (f i))) | _ => False
theorem de_neg (a : DE K mg W X e te τe) : DE K mg W X (.UnaryOp .USub e pos) (tUn (rU fun i => .int (-i)) te) (τUn (fun i => -i) τe) := by
  refine ⟨pe_un un_neg a.pe, fun Z G0 H0 x hx σ ρ G H Q Qd R h k => ?_⟩
  refine a.sem Z G0 H0 x hx σ ρ G H _ _ R h fun s v G1 H1 g1 h1 => ?_
  split at h1
  · exact ⟨_, g1.sv.int, k _ _ G1 H1 (.after g1.ext (.here g1.ok (.int _))) h1⟩
  · exact h1.elim

/-! ### list(range(..)), tuple(range(..)) -/
theorem rgV_rgD {K : PySem.W.Frag} {G : Hp} (a b : Int) : DqAll K G (rgV a b) (rgD a (b - a).toNat) := by
  unfold rgV rgD
  generalize (List.range (b - a).toNat) = l
  induction l with
  | nil => exact .nil
  | cons x xs ih => exact .cons (.int _) ih
structure DR (K : PySem.W.Frag) (mg : Str → Option Value) (W : WX) (X : Cx) (e : Expr) (t : L2.St → Hp → (Int → Int → Hp → Prop) → Prop) (τ : Xn → DEnv → (Int → Int → Prop) → Prop) : Prop where
  pe : PRg X e t
  sem : ∀ (Z : Rg) (G0 H0 : Hp) (x : Xn), XOk Z K mg G0 H0 W x → ∀ (σ : L2.St) (ρ : DEnv) (G H : Hp) (Q : Int → Int → Hp → Prop) (Qd : Int → Int → Prop), SRel Z K G0 H0 G H σ ρ → τ x ρ Qd →
    (∀ i j G' H', Ext Z G H G' H' → Ok Z G' H' → Qd i j → Q i j H') → t σ H Q
def τRg1 (a : DT) : Xn → DEnv → (Int → Int → Prop) → Prop := fun x ρ Q => a x ρ fun s => match s with | .dat (.int n) => Q 0 n | _ => False
def τRg2 (a b : DT) : Xn → DEnv → (Int → Int → Prop) → Prop := fun x ρ Q => a x ρ fun s => b x ρ fun t => match s, t with | .dat (.int i), .dat (.int j) => Q i j | _, _ => False
theorem dr_1 (hg : Gl X "range") (hm : X.mg "range" = none) (a : DE K mg W X e te τe) (na : starEach [e] X.env = (false, eval e X.env) :: starEach [] X.env := by rfl) : DR K mg W X (.Call (.Name "range" p) [e] [] pos) (tRg1 te) (τRg1 τe) := by
  refine ⟨prg_1 hg hm a.pe na, fun Z G0 H0 x hx σ ρ G H Q Qd R h k => ?_⟩
  refine a.sem Z G0 H0 x hx σ ρ G H _ _ R h fun s v G1 H1 g1 h1 => ?_
  split at h1
  · exact ⟨_, g1.sv.int, k _ _ G1 H1 g1.ext g1.ok h1⟩
  · exact h1.elim
theorem dr_2 (hg : Gl X "range") (hm : X.mg "range" = none) (a : DE K mg W X e te τe) (b : DE K mg W X f tf τf) (na : starEach [e, f] X.env = (false, eval e X.env) :: starEach [f] X.env := by rfl)
    (nb : starEach [f] X.env = (false, eval f X.env) :: starEach [] X.env := by rfl) (hp : (backTo pos (starEach [f] X.env)).any (·.1) = false := by rfl) : DR K mg W X (.Call (.Name "range" p) [e, f] [] pos) (tRg2 te tf) (τRg2 τe τf) := by
  refine ⟨prg_2 hg hm a.pe b.pe na nb hp, fun Z G0 H0 x hx σ ρ G H Q Qd R h k => ?_⟩
  refine a.sem Z G0 H0 x hx σ ρ G H _ _ R h fun s v G1 H1 g1 h1 => ?_
  refine b.sem Z G0 H0 x hx σ ρ G1 H1 _ _ (R.mono g1.ext g1.ok) h1 fun t u G2 H2 g2 h2 => ?_
  split at h2
  · exact ⟨_, _, g1.sv.int, g2.sv.int, k _ _ G2 H2 (g1.ext.trans g2.ext) g2.ok h2⟩
  · exact h2.elim
def τLstRg (a : Xn → DEnv → (Int → Int → Prop) → Prop) : DT := fun x ρ Q => a x ρ fun i j => RgOk i j ∧ Q (.own (rgD i (j - i).toNat))
def τTupRg (a : Xn → DEnv → (Int → Int → Prop) → Prop) : DT := fun x ρ Q => a x ρ fun i j => RgOk i j ∧ Q (.dat (.tuple (rgD i (j - i).toNat)))
variable {tr : L2.St → Hp → (Int → Int → Hp → Prop) → Prop} {τr : Xn → DEnv → (Int → Int → Prop) → Prop}
theorem de_listRg (hc : X.calm = true) (hg : Gl X "list") (hm : X.mg "list" = none) (a : DR K mg W X e tr τr) (na : starEach [e] X.env = (false, eval e X.env) :: starEach [] X.env := by rfl) : DE K mg W X (.Call (.Name "list" p) [e] [] pos) (tLstRg tr) (τLstRg τr) :=
  ⟨pe_listRg hc hg hm a.pe na, fun Z G0 H0 x hx σ ρ G H Q Qd R h k => a.sem Z G0 H0 x hx σ ρ G H _ _ R h fun i j G1 H1 e1 o1 h1 => ⟨h1.1, fun q hq => k _ _ _ _ (.after e1 (.newL o1 hq (rgV_rgD i j))) h1.2⟩⟩
theorem de_tupRg (hc : X.calm = true) (hg : Gl X "tuple") (hm : X.mg "tuple" = none) (a : DR K mg W X e tr τr) (na : starEach [e] X.env = (false, eval e X.env) :: starEach [] X.env := by rfl) : DE K mg W X (.Call (.Name "tuple" p) [e] [] pos) (tTupRg tr) (τTupRg τr) :=
  ⟨pe_tupRg hc hg hm a.pe na, fun Z G0 H0 x hx σ ρ G H Q Qd R h k => a.sem Z G0 H0 x hx σ ρ G H _ _ R h fun i j G1 H1 e1 o1 h1 => ⟨h1.1, fun q hq => k _ _ _ _ (.after e1 (.newT o1 hq (rgV_rgD i j))) h1.2⟩⟩

/-! ### isinstance(x, T), T a built-in class -/
def tyName : D → String
  | .none => "NoneType"
  | .bool _ => "bool"
  | .int _ => "int"
  | .str _ => "str"
  | .list _ => "list"
  | .tuple _ => "tuple"
  | .dict _ => "dict"
def isTy (T : String) (d : D) : Bool := tyName d == T || (T == "int" && tyName d == "bool")
def dctB : D → Bool
  | .dict _ => true
  | _ => false
def τIsi (T : String) (a : DT) : DT := fun x ρ Q => a x ρ fun s => (s ≠ .tok ∧ dctB s.d = false) ∧ Q (.dat (.bool (isTy T s.d)))
theorem tyx_of {K : PySem.W.Frag} {H : Hp} {v : V} {d : D} (h : Dq K H v d) (hn : dctB d = false) : TyX K H v (.type (tyName d)) := by
  cases h with
  | non => exact .base .non
  | bl b => exact .base (.bl b)
  | int i => exact .base (.int i)
  | str z => exact .base (.str z)
  | lst q1 q2 =>
    rcases q1 with (q1 | ⟨o, q1⟩) | ⟨o, _, _, q1, q2, _⟩
    · exact .base (.lst q1)
    · exact .base (.frz q1)
    · exact .kList q1 q2
  | tup q1 q2 => exact .base (.tup q1)
  | dkk _ _ => cases hn
  | dkt _ _ => cases hn
def KitT (T : String) : Prop := ∀ d, kitB (tyName d) T = some (isTy T d)
theorem kitT_tuple : KitT "tuple" := fun d => by cases d <;> (simp only [tyName, isTy]; decide +kernel)
theorem kitT_list : KitT "list" := fun d => by cases d <;> (simp only [tyName, isTy]; decide +kernel)
theorem kitT_bool : KitT "bool" := fun d => by cases d <;> (simp only [tyName, isTy]; decide +kernel)
theorem kitT_int : KitT "int" := fun d => by cases d <;> (simp only [tyName, isTy]; decide +kernel)
theorem kitT_str : KitT "str" := fun d => by cases d <;> (simp only [tyName, isTy]; decide +kernel)
theorem de_isi {T : String} {nm : Str} {q : Pos} (hg : Gl X "isinstance") (hm : X.mg "isinstance" = none) (hgT : Gl X nm) (hmT : X.mg nm = none) (hv : bootBuiltins nm = some (.type T)) (kt : KitT T) (a : DE K mg W X e te τe) (hn : nm ≠ "__name__" := by decide) (hd : (nm == ("__debug__" : Str)) = false := by decide)
    (s1 : starEach [e, .Name nm q] X.env = (false, eval e X.env) :: starEach [.Name nm q] X.env := by rfl) (s2 : starEach [.Name nm q] X.env = (false, eval (.Name nm q) X.env) :: starEach [] X.env := by rfl) (hpl : (backTo pos (starEach [.Name nm q] X.env)).any (·.1) = false := by rfl) (hK : X.K = K := by rfl) :
    DE K mg W X (.Call (.Name "isinstance" p) [e, .Name nm q] [] pos) (tCB (rIsi K) (tCons te (tCons (tC (.ty T)) tNil))) (τIsi T τe) := by
  subst hK
  refine ⟨pe_callB call_isi hg hm boot_isinstance (pa_cons a.pe (pa_cons (pe_bltn hgT hmT hv (show RelV (.ty T) (.type T) from rfl) hn hd) pa_nil s2) s1) (by decide) (by decide) s1 hpl, fun Z G0 H0 x hx σ ρ G H Q Qd R h k => ?_⟩
  refine a.sem Z G0 H0 x hx σ ρ G H _ _ R h fun s v G1 H1 g1 ⟨ht, h1⟩ => ?_
  exact ⟨v, .ty T, .type (tyName s.d), .type T, _, rfl, .ty T, tyx_of (g1.sv.dpH g1.ok ht.1 (by rintro t kvs rfl; cases ht.2)) ht.2, kit_ty (kt s.d), k _ _ G1 H1 (.after g1.ext (.here g1.ok (.bl _))) h1⟩
end
end DL
namespace DL
open PySem PySem.Spec PyProof.Rows L2
theorem hu4 {A : Around} {k : Nat} (hr : Room k A) : A.units + 64 < cLine := by
  have := hr.un
  omega
theorem hu5 {A : Around} {k : Nat} (hr : Room k A) : A.units + 65 < cLine := by
  have := hr.un
  omega
end DL

/-! M1: numbers as sets of bits; families of sets. Core Lean alone. -/
namespace Mb
theorem two_cases (n : Nat) : n % 2 = 0 ∨ n % 2 = 1 := by omega
theorem and_mod (a b : Nat) : (a &&& b) % 2 = a % 2 * (b % 2) := by
  have h := @Nat.and_mod_two_eq_one a b
  rcases two_cases a with ha | ha <;> rcases two_cases b with hb | hb <;> rcases two_cases (a &&& b) with hc | hc <;> simp_all
theorem or_mod (a b : Nat) : (a ||| b) % 2 = a % 2 + b % 2 - a % 2 * (b % 2) := by
  have h := @Nat.or_mod_two_eq_one a b
  rcases two_cases a with ha | ha <;> rcases two_cases b with hb | hb <;> rcases two_cases (a ||| b) with hc | hc <;> simp_all
theorem xor_mod (a b : Nat) : (a ^^^ b) % 2 = (a % 2 + b % 2) % 2 := by
  have h := @Nat.xor_mod_two_eq_one a b
  rcases two_cases a with ha | ha <;> rcases two_cases b with hb | hb <;> rcases two_cases (a ^^^ b) with hc | hc <;> simp_all
theorem xor_and (a : Nat) : ∀ b, a + b = (a ^^^ b) + 2 * (a &&& b) := by
  induction a using Nat.strongRecOn with
  | ind a ih =>
    intro b
    by_cases h0 : a = 0
    · subst h0; simp
    · have i := ih (a / 2) (by omega) (b / 2)
      have e1 := @Nat.xor_div_two a b
      have e2 := @Nat.and_div_two a b
      have m1 := xor_mod a b
      have m2 := and_mod a b
      rw [← e1, ← e2] at i
      rcases two_cases a with ha | ha <;> rcases two_cases b with hb | hb <;> rw [ha, hb] at m1 m2 <;> omega
theorem or_and (a b : Nat) : a + b = (a ||| b) + (a &&& b) := by
  have h1 := xor_and a b
  have h2 : (a ||| b) = (a ^^^ b) + (a &&& b) := by
    have h3 := xor_and (a ^^^ b) (a &&& b)
    have e1 : (a ^^^ b) &&& (a &&& b) = 0 := Nat.eq_of_testBit_eq fun i => by
      simp only [Nat.testBit_and, Nat.testBit_xor, Nat.zero_testBit]
      cases a.testBit i <;> cases b.testBit i <;> rfl
    have e2 : (a ^^^ b) ^^^ (a &&& b) = (a ||| b) := Nat.eq_of_testBit_eq fun i => by
      simp only [Nat.testBit_and, Nat.testBit_xor, Nat.testBit_or]
      cases a.testBit i <;> cases b.testBit i <;> rfl
    rw [e1, e2] at h3
    omega
  omega
/-- taking away a part -/
theorem sub_testBit {a b : Nat} (h : a &&& b = b) (i : Nat) : (a - b).testBit i = (a.testBit i && !b.testBit i) := by
  have h1 := xor_and a b
  rw [h] at h1
  have h2 : a - b = a ^^^ b := by omega
  have h3 : b.testBit i = (a.testBit i && b.testBit i) := by rw [← Nat.testBit_and, h]
  rw [h2, Nat.testBit_xor]
  cases ha : a.testBit i <;> cases hb : b.testBit i <;> simp_all
/-- parts without common bits -/
theorem add_testBit {a b : Nat} (h : a &&& b = 0) (i : Nat) : (a + b).testBit i = (a.testBit i || b.testBit i) := by
  have h1 := or_and a b
  rw [h] at h1
  rw [h1, Nat.add_zero, Nat.testBit_or]
theorem and_pow (a n : Nat) (h : a.testBit n = false) : a &&& 2 ^ n = 0 := Nat.eq_of_testBit_eq fun i => by
  rw [Nat.testBit_and, Nat.testBit_two_pow, Nat.zero_testBit]
  by_cases e : n = i
  · subst e; rw [h]; rfl
  · simp [e]
/-- the least bit -/
theorem low (F : Nat) : F ≠ 0 → ∃ m, F.testBit m = true ∧ (∀ i, i < m → F.testBit i = false) ∧ F - (F &&& (F - 1)) = 2 ^ m ∧ ∀ i, (F &&& (F - 1)).testBit i = (F.testBit i && decide (i ≠ m)) := by
  induction F using Nat.strongRecOn with
  | ind F ih =>
    intro h0
    rcases two_cases F with he | ho
    · obtain ⟨G, rfl⟩ : ∃ G, F = 2 * G := ⟨F / 2, by omega⟩
      obtain ⟨m, h1, h2, h3, h4⟩ := ih G (by omega) (by omega)
      have t0 : ∀ H : Nat, (2 * H).testBit 0 = false := fun H => by rw [Nat.testBit_zero]; simp
      have ts : ∀ (H i : Nat), (2 * H).testBit (i + 1) = H.testBit i := fun H i => by rw [Nat.testBit_succ]; congr 1; omega
      have e : (2 * G) &&& (2 * G - 1) = 2 * (G &&& (G - 1)) := Nat.eq_of_testBit_eq fun i => by
        cases i with
        | zero => rw [Nat.testBit_and, t0, t0]; rfl
        | succ i =>
          rw [Nat.testBit_and, ts, ts, Nat.testBit_succ, Nat.testBit_and]
          congr 2
          omega
      refine ⟨m + 1, by rw [ts]; exact h1, fun i hi => ?_, ?_, fun i => ?_⟩
      · cases i with
        | zero => exact t0 G
        | succ i => rw [ts]; exact h2 i (by omega)
      · rw [e, Nat.pow_succ]; omega
      · rw [e]
        cases i with
        | zero => rw [t0, t0]; rfl
        | succ i => rw [ts, ts, h4]; simp
    · have e : F &&& (F - 1) = F - 1 := Nat.eq_of_testBit_eq fun i => by
        rw [Nat.testBit_and]
        cases i with
        | zero => rw [Nat.testBit_zero, Nat.testBit_zero]; simp; omega
        | succ i =>
          rw [Nat.testBit_succ, Nat.testBit_succ, show (F - 1) / 2 = F / 2 by omega]
          simp
      refine ⟨0, by rw [Nat.testBit_zero]; simp [ho], fun i hi => absurd hi (Nat.not_lt_zero i), by rw [e]; omega, fun i => ?_⟩
      rw [e]
      cases i with
      | zero => rw [Nat.testBit_zero]; simp; omega
      | succ i => rw [Nat.testBit_succ, Nat.testBit_succ, show (F - 1) / 2 = F / 2 by omega]; simp

/-- the bits below n -/
def bitsOf (n F : Nat) : List Nat := (List.range n).filter F.testBit
theorem mem_bits {n F i : Nat} : i ∈ bitsOf n F ↔ i < n ∧ F.testBit i = true := by
  unfold bitsOf
  rw [List.mem_filter, List.mem_range]
theorem bits_sorted (n F : Nat) : (bitsOf n F).Pairwise (· < ·) := List.Pairwise.filter _ List.pairwise_lt_range
theorem bits_zero (n : Nat) : bitsOf n 0 = [] := by
  unfold bitsOf
  rw [List.filter_eq_nil_iff]
  intro a _
  simp
/-- two rising lists with the same members are one -/
theorem rising_ext : ∀ {l m : List Nat}, l.Pairwise (· < ·) → m.Pairwise (· < ·) → (∀ a, a ∈ l ↔ a ∈ m) → l = m
  | [], [], _, _, _ => rfl
  | [], b :: m, _, _, h => absurd ((h b).mpr List.mem_cons_self) (by simp)
  | a :: l, [], _, _, h => absurd ((h a).mp List.mem_cons_self) (by simp)
  | a :: l, b :: m, h1, h2, h => by
    have p1 := List.pairwise_cons.mp h1
    have p2 := List.pairwise_cons.mp h2
    have e : a = b := by
      have ha := (h a).mp List.mem_cons_self
      have hb := (h b).mpr List.mem_cons_self
      rcases List.mem_cons.mp ha with r | r
      · exact r
      · rcases List.mem_cons.mp hb with q | q
        · exact q.symm
        · have := p1.1 b q
          have := p2.1 a r
          omega
    subst e
    rw [rising_ext p1.2 p2.2 fun c => ?_]
    constructor
    · intro hc
      rcases List.mem_cons.mp ((h c).mp (List.mem_cons_of_mem _ hc)) with r | r
      · subst r; exact absurd (p1.1 _ hc) (Nat.lt_irrefl _)
      · exact r
    · intro hc
      rcases List.mem_cons.mp ((h c).mpr (List.mem_cons_of_mem _ hc)) with r | r
      · subst r; exact absurd (p2.1 _ hc) (Nat.lt_irrefl _)
      · exact r
theorem bits_cut {n k F : Nat} (h : F < 2 ^ k) (hk : F < 2 ^ n) : bitsOf n F = bitsOf k F := rising_ext (bits_sorted _ _) (bits_sorted _ _) fun a => by
  have hb : ∀ j, F < 2 ^ j → F.testBit a = true → a < j := fun j hj ht => by
    have := Nat.ge_two_pow_of_testBit ht
    exact (Nat.pow_lt_pow_iff_right (by omega : 1 < 2)).mp (Nat.lt_of_le_of_lt this hj)
  rw [mem_bits, mem_bits]
  constructor
  · rintro ⟨_, ht⟩; exact ⟨hb k h ht, ht⟩
  · rintro ⟨_, ht⟩; exact ⟨hb n hk ht, ht⟩
theorem bits_step {n F : Nat} (h0 : F ≠ 0) (hn : F < 2 ^ n) : ∃ m, F - (F &&& (F - 1)) = 2 ^ m ∧ bitsOf n F = m :: bitsOf n (F &&& (F - 1)) ∧ m < n := by
  obtain ⟨m, h1, h2, h3, h4⟩ := low F h0
  have hm : m < n := (mem_bits.mp (by
    have := Nat.ge_two_pow_of_testBit h1
    exact mem_bits.mpr ⟨(Nat.pow_lt_pow_iff_right (by omega : 1 < 2)).mp (Nat.lt_of_le_of_lt this hn), h1⟩)).1
  refine ⟨m, h3, rising_ext (bits_sorted _ _) (List.pairwise_cons.mpr ⟨fun a ha => ?_, bits_sorted _ _⟩) fun a => ?_, hm⟩
  · have ⟨_, ht⟩ := mem_bits.mp ha
    rw [h4] at ht
    have ht' : F.testBit a = true ∧ a ≠ m := by simpa using ht
    by_cases q : a < m
    · rw [h2 a q] at ht'; exact absurd ht'.1 (by simp)
    · omega
  · rw [List.mem_cons, mem_bits, mem_bits, h4]
    by_cases e : a = m
    · subst e; simp [hm, h1]
    · simp [e]
/-- the mask of some numbers -/
def maskOf (l : List Nat) : Nat := (l.map fun n => 2 ^ n).sum
theorem mask_testBit : ∀ {l : List Nat}, l.Nodup → ∀ i, (maskOf l).testBit i = decide (i ∈ l)
  | [], _, i => by simp [maskOf]
  | n :: l, h, i => by
    have hd := List.nodup_cons.mp h
    have ih := mask_testBit hd.2
    have e : maskOf (n :: l) = maskOf l + 2 ^ n := by
      unfold maskOf
      rw [List.map_cons, List.sum_cons, Nat.add_comm]
    have hz : (maskOf l).testBit n = false := by rw [ih n]; simp [hd.1]
    rw [e, add_testBit (and_pow _ _ hz), ih i, Nat.testBit_two_pow]
    by_cases q : i = n
    · subst q; simp
    · have q' : ¬ n = i := fun z => q z.symm
      simp [q, q']
theorem mask_lt {l : List Nat} {n : Nat} (h : l.Nodup) (hb : ∀ x ∈ l, x < n) : maskOf l < 2 ^ n := Nat.lt_pow_two_of_testBit _ fun i hi => by
  rw [mask_testBit h]
  simp
  intro hm
  have := hb i hm
  omega
end Mb

/-! M2: families of sets as numbers, least hitting sets. Core Lean alone. -/
namespace Mb
theorem shl_testBit (F k m : Nat) : (F * 2 ^ k).testBit m = (decide (k ≤ m) && F.testBit (m - k)) := by
  rw [← Nat.shiftLeft_eq, Nat.testBit_shiftLeft]
theorem shr_testBit (F k m : Nat) : (F / 2 ^ k).testBit m = F.testBit (k + m) := by
  rw [← Nat.shiftRight_eq_div_pow, Nat.testBit_shiftRight]
theorem low_bit_add {j k m : Nat} (h : k < j) : (2 ^ j + m).testBit k = m.testBit k := Nat.testBit_two_pow_add_gt h m
/-- the sets over less than size numbers that do not have k -/
def famW (k : Nat) (t : Nat) : Nat := (List.range' (k + 1) t).foldl (fun F j => F ||| F * 2 ^ (2 ^ j)) (2 ^ (2 ^ k) - 1)
theorem famW_succ (k t : Nat) : famW k (t + 1) = famW k t ||| famW k t * 2 ^ (2 ^ (k + 1 + t)) := by
  unfold famW
  rw [List.range'_concat, List.foldl_append, Nat.one_mul]
  rfl
theorem famW_testBit (k : Nat) : ∀ t m, (famW k t).testBit m = (decide (m < 2 ^ (k + 1 + t)) && !m.testBit k)
  | 0, m => by
    show (2 ^ (2 ^ k) - 1).testBit m = _
    rw [Nat.testBit_two_pow_sub_one, Nat.add_zero]
    by_cases h : m < 2 ^ k
    · have h2 : m < 2 ^ (k + 1) := by rw [Nat.pow_succ]; omega
      have h3 : m.testBit k = false := Nat.testBit_lt_two_pow h
      simp [h, h2, h3]
    · by_cases h2 : m < 2 ^ (k + 1)
      · have h3 : m.testBit k = true := by
          have e : m = 2 ^ k + (m - 2 ^ k) := by omega
          have h4 : m - 2 ^ k < 2 ^ k := by rw [Nat.pow_succ] at h2; omega
          rw [e, Nat.testBit_two_pow_add_eq, Nat.testBit_lt_two_pow h4]
          rfl
        simp [h, h3]
      · simp [h, h2]
  | t + 1, m => by
    rw [famW_succ, Nat.testBit_or, shl_testBit, famW_testBit k t, famW_testBit k t]
    generalize hj : k + 1 + t = j
    have hkj : k < j := by omega
    rw [show k + 1 + (t + 1) = j + 1 by omega, Nat.pow_succ]
    by_cases h1 : m < 2 ^ j
    · have h2 : ¬ 2 ^ j ≤ m := by omega
      have h3 : m < 2 ^ j * 2 := by omega
      simp [h1, h2, h3]
    · have h2 : 2 ^ j ≤ m := by omega
      have e : (m - 2 ^ j).testBit k = m.testBit k := by
        have e1 : m = 2 ^ j + (m - 2 ^ j) := by omega
        rw [← low_bit_add (m := m - 2 ^ j) hkj, ← e1]
      by_cases h3 : m < 2 ^ j * 2
      · have h4 : m - 2 ^ j < 2 ^ j := by omega
        simp [h1, h2, h3, h4, e]
      · have h4 : ¬ m - 2 ^ j < 2 ^ j := by omega
        simp [h1, h3, h4]
theorem fam_lt {F n : Nat} (h : ∀ m, F.testBit m = true → m < 2 ^ n) : F < 2 ^ (2 ^ n) := Nat.lt_pow_two_of_testBit _ fun i hi => by
  cases e : F.testBit i with
  | false => rfl
  | true => have := h i e; omega
theorem famW_lt (k t n : Nat) (h : k + 1 + t = n) : famW k t < 2 ^ (2 ^ n) := fam_lt fun m hm => by
  rw [famW_testBit, h] at hm
  have : m < 2 ^ n ∧ m.testBit k = false := by simpa using hm
  exact this.1
/-- all of them, for a size -/
def famAll (n : Nat) : List Nat := (List.range n).map fun k => famW k (n - (k + 1))
theorem famAll_get {n k : Nat} (h : k < n) : (famAll n)[k]? = some (famW k (n - (k + 1))) := by
  unfold famAll
  rw [List.getElem?_map, List.getElem?_range h]
  rfl
theorem wn {n k m : Nat} (h : k < n) : (famW k (n - (k + 1))).testBit m = (decide (m < 2 ^ n) && !m.testBit k) := by
  rw [famW_testBit, show k + 1 + (n - (k + 1)) = n by omega]
/-- one number more -/
def oneMore (n F : Nat) : Nat → Nat
  | 0 => 0
  | k + 1 => oneMore n F k ||| (F &&& famW k (n - (k + 1))) * 2 ^ (2 ^ k)
theorem plus_bit {m k : Nat} (h : m.testBit k = false) (i : Nat) : (m + 2 ^ k).testBit i = (m.testBit i || decide (k = i)) := by
  rw [add_testBit (and_pow _ _ h), Nat.testBit_two_pow]
theorem minus_bit {m k : Nat} (h : m.testBit k = true) : 2 ^ k ≤ m ∧ (∀ i, (m - 2 ^ k).testBit i = (m.testBit i && !decide (k = i))) := by
  have h1 := Nat.ge_two_pow_of_testBit h
  refine ⟨h1, fun i => ?_⟩
  have e : m &&& 2 ^ k = 2 ^ k := Nat.eq_of_testBit_eq fun i => by
    rw [Nat.testBit_and, Nat.testBit_two_pow]
    by_cases q : k = i
    · subst q; simp [h]
    · simp [q]
  rw [sub_testBit e, Nat.testBit_two_pow]
theorem oneMore_testBit {n F : Nat} : ∀ t, t ≤ n → ∀ m, m < 2 ^ n → ((oneMore n F t).testBit m = true ↔ ∃ k, k < t ∧ m.testBit k = true ∧ F.testBit (m - 2 ^ k) = true)
  | 0, _, m, _ => by simp [oneMore]
  | t + 1, ht, m, hm => by
    have ih := oneMore_testBit t (by omega) m hm (F := F)
    show (oneMore n F t ||| (F &&& famW t (n - (t + 1))) * 2 ^ (2 ^ t)).testBit m = true ↔ _
    rw [Nat.testBit_or, shl_testBit, Nat.testBit_and, wn (by omega), Bool.or_eq_true, ih]
    have key : (decide (2 ^ t ≤ m) && (F.testBit (m - 2 ^ t) && (decide (m - 2 ^ t < 2 ^ n) && !(m - 2 ^ t).testBit t))) = true ↔ m.testBit t = true ∧ F.testBit (m - 2 ^ t) = true := by
      constructor
      · intro h
        have h' : 2 ^ t ≤ m ∧ F.testBit (m - 2 ^ t) = true ∧ m - 2 ^ t < 2 ^ n ∧ (m - 2 ^ t).testBit t = false := by simpa using h
        refine ⟨?_, h'.2.1⟩
        have e : m = (m - 2 ^ t) + 2 ^ t := by omega
        rw [e, plus_bit h'.2.2.2]
        simp
      · rintro ⟨h1, h2⟩
        obtain ⟨h3, h4⟩ := minus_bit h1
        have h5 : (m - 2 ^ t).testBit t = false := by rw [h4]; simp
        have h6 : m - 2 ^ t < 2 ^ n := Nat.lt_of_le_of_lt (Nat.sub_le _ _) hm
        simp [h2, h3, h5, h6]
    rw [key]
    constructor
    · rintro (⟨k, h1, h2⟩ | h)
      · exact ⟨k, by omega, h2⟩
      · exact ⟨t, by omega, h⟩
    · rintro ⟨k, h1, h2⟩
      by_cases e : k = t
      · subst e; exact .inr h2
      · exact .inl ⟨k, by omega, h2⟩
theorem mul_pow_lt {x a b : Nat} (h : x < 2 ^ a) : x * 2 ^ b < 2 ^ (a + b) := by
  rw [Nat.pow_add]
  exact Nat.mul_lt_mul_of_pos_right h (Nat.two_pow_pos b)
theorem oneMore_lt {n F : Nat} (hF : F < 2 ^ (2 ^ n)) : ∀ t, t ≤ n → oneMore n F t < 2 ^ (2 ^ (n + 1))
  | 0, _ => Nat.two_pow_pos _
  | t + 1, ht => by
    refine Nat.or_lt_two_pow (oneMore_lt hF t (by omega)) ?_
    have h1 : F &&& famW t (n - (t + 1)) < 2 ^ (2 ^ n) := Nat.and_lt_two_pow _ (famW_lt _ _ n (by omega))
    have h2 := mul_pow_lt (b := 2 ^ t) h1
    refine Nat.lt_of_lt_of_le h2 (Nat.pow_le_pow_right (by omega) ?_)
    have h3 : 2 ^ t ≤ 2 ^ n := Nat.pow_le_pow_right (by omega) (by omega)
    rw [Nat.pow_succ]; omega
/-- all that lie within -/
def within (n F : Nat) : Nat → Nat
  | 0 => F
  | k + 1 => within n F k ||| (within n F k / 2 ^ (2 ^ k) &&& famW k (n - (k + 1)))
theorem within_lt {n F : Nat} (hF : F < 2 ^ (2 ^ n)) : ∀ t, t ≤ n → within n F t < 2 ^ (2 ^ n)
  | 0, _ => hF
  | t + 1, ht => Nat.or_lt_two_pow (within_lt hF t (by omega)) (Nat.and_lt_two_pow _ (famW_lt _ _ n (by omega)))
theorem within_testBit {n F : Nat} (hF : F < 2 ^ (2 ^ n)) : ∀ t, t ≤ n → ∀ m, m < 2 ^ n →
    ((within n F t).testBit m = true ↔ ∃ m', m' < 2 ^ n ∧ F.testBit m' = true ∧ (∀ i, i < t → m.testBit i = true → m'.testBit i = true) ∧ ∀ i, t ≤ i → m'.testBit i = m.testBit i)
  | 0, _, m, hm => by
    show F.testBit m = true ↔ _
    constructor
    · intro h
      exact ⟨m, hm, h, fun i hi => absurd hi (Nat.not_lt_zero i), fun _ _ => rfl⟩
    · rintro ⟨m', h1, h2, _, h3⟩
      have e : m' = m := Nat.eq_of_testBit_eq fun i => h3 i (Nat.zero_le _)
      rw [← e]; exact h2
  | t + 1, ht, m, hm => by
    have ih := within_testBit hF t (by omega)
    show (within n F t ||| (within n F t / 2 ^ (2 ^ t) &&& famW t (n - (t + 1)))).testBit m = true ↔ _
    rw [Nat.testBit_or, Nat.testBit_and, shr_testBit, wn (by omega), Bool.or_eq_true, ih m hm]
    have hmm : decide (m < 2 ^ n) = true := decide_eq_true hm
    rw [hmm, Bool.true_and]
    constructor
    · rintro (⟨m', h1, h2, h3, h4⟩ | h)
      · exact ⟨m', h1, h2, fun i hi hb => by
          by_cases e : i = t
          · subst e; rw [h4 i (Nat.le_refl _)]; exact hb
          · exact h3 i (by omega) hb, fun i hi => h4 i (by omega)⟩
      · have h' : (within n F t).testBit (2 ^ t + m) = true ∧ m.testBit t = false := by simpa using h
        have hlt : 2 ^ t + m < 2 ^ n := Nat.lt_of_not_le fun hle => by
          have := within_lt hF t (by omega)
          have q := Nat.testBit_lt_two_pow (Nat.lt_of_lt_of_le this (Nat.pow_le_pow_right (by omega) hle))
          rw [q] at h'; exact absurd h'.1 (by simp)
        obtain ⟨m', h1, h2, h3, h4⟩ := (ih _ hlt).mp h'.1
        have pb := plus_bit h'.2
        rw [Nat.add_comm] at h3 h4
        refine ⟨m', h1, h2, fun i hi hb => ?_, fun i hi => ?_⟩
        · by_cases e : i = t
          · subst e; rw [h'.2] at hb; cases hb
          · exact h3 i (by omega) (by rw [pb, hb]; rfl)
        · have e : ¬ t = i := by omega
          rw [h4 i (by omega), pb]
          simp [e]
    · rintro ⟨m', h1, h2, h3, h4⟩
      by_cases hb : m'.testBit t = m.testBit t
      · refine .inl ⟨m', h1, h2, fun i hi hc => h3 i (by omega) hc, fun i hi => ?_⟩
        by_cases e : i = t
        · subst e; exact hb
        · exact h4 i (by omega)
      · have hm0 : m.testBit t = false := by
          cases q : m.testBit t with
          | false => rfl
          | true => exact absurd ((h3 t (by omega) q).trans q.symm) hb
        have hm1 : m'.testBit t = true := by
          cases q : m'.testBit t with
          | true => rfl
          | false => exact absurd (q.trans hm0.symm) hb
        have pb := plus_bit hm0
        have hlt : m + 2 ^ t < 2 ^ n := Nat.lt_pow_two_of_testBit _ fun i hi => by
          rw [pb, Nat.testBit_lt_two_pow (Nat.lt_of_lt_of_le hm (Nat.pow_le_pow_right (by omega) hi))]
          have : ¬ t = i := by omega
          simp [this]
        refine .inr ?_
        rw [hm0, Nat.add_comm]
        have : (within n F t).testBit (m + 2 ^ t) = true := (ih _ hlt).mpr ⟨m', h1, h2, fun i hi hc => by
            rw [pb] at hc
            have e : ¬ t = i := by omega
            exact h3 i (by omega) (by simpa [e] using hc), fun i hi => by
            rw [pb]
            by_cases e : t = i
            · subst e; simp [hm1]
            · rw [h4 i (by omega)]; simp [e]⟩
        rw [this]; rfl
theorem within_all {n F m : Nat} (hF : F < 2 ^ (2 ^ n)) (hm : m < 2 ^ n) : (within n F n).testBit m = true ↔ ∃ m', m' < 2 ^ n ∧ F.testBit m' = true ∧ ∀ i, m.testBit i = true → m'.testBit i = true := by
  rw [within_testBit hF n (Nat.le_refl _) m hm]
  constructor
  · rintro ⟨m', h1, h2, h3, h4⟩
    refine ⟨m', h1, h2, fun i hi => ?_⟩
    by_cases q : i < n
    · exact h3 i q hi
    · rw [h4 i (by omega)]; exact hi
  · rintro ⟨m', h1, h2, h3⟩
    refine ⟨m', h1, h2, fun i _ hi => h3 i hi, fun i hi => ?_⟩
    rw [Nat.testBit_lt_two_pow (Nat.lt_of_lt_of_le h1 (Nat.pow_le_pow_right (by omega) hi)), Nat.testBit_lt_two_pow (Nat.lt_of_lt_of_le hm (Nat.pow_le_pow_right (by omega) hi))]

/-! ### least hitting sets -/
def Hits (sets : List (List Nat)) (l : List Nat) : Prop := ∀ s ∈ sets, ∃ n ∈ s, n ∈ l
def MinHit (sets : List (List Nat)) (l : List Nat) : Prop := l.Pairwise (· < ·) ∧ Hits sets l ∧ ∀ n ∈ l, ¬ Hits sets (l.filter fun m => decide (m ≠ n))
/-- the family of the complements -/
def missing0 (n : Nat) (sets : List (List Nat)) : Nat := sets.foldl (fun F s => F ||| 2 ^ ((2 ^ n - 1) ^^^ maskOf s)) 0
theorem foldl_or_testBit {α : Type} (f : α → Nat) (m : Nat) : ∀ (l : List α) (F : Nat), (l.foldl (fun F s => F ||| 2 ^ (f s)) F).testBit m = true ↔ F.testBit m = true ∨ ∃ s ∈ l, f s = m
  | [], F => by simp
  | s :: l, F => by
    rw [List.foldl_cons, foldl_or_testBit f m l, Nat.testBit_or, Nat.testBit_two_pow, Bool.or_eq_true, decide_eq_true_eq]
    simp only [List.mem_cons, exists_eq_or_imp]
    constructor
    · rintro ((h | h) | h)
      · exact .inl h
      · exact .inr (.inl h)
      · exact .inr (.inr h)
    · rintro (h | h | h)
      · exact .inl (.inl h)
      · exact .inl (.inr h)
      · exact .inr h
structure SetsOk (n : Nat) (sets : List (List Nat)) : Prop where
  up : ∀ s ∈ sets, s.Pairwise (· < ·)
  lt : ∀ s ∈ sets, ∀ x ∈ s, x < n
theorem up_nodup {l : List Nat} (h : l.Pairwise (· < ·)) : l.Nodup := h.imp fun {a b} h => Nat.ne_of_lt h
theorem compl_testBit {n : Nat} {s : List Nat} (h : s.Nodup) (hb : ∀ x ∈ s, x < n) (i : Nat) : ((2 ^ n - 1) ^^^ maskOf s).testBit i = (decide (i < n) && !decide (i ∈ s)) := by
  rw [Nat.testBit_xor, Nat.testBit_two_pow_sub_one, mask_testBit h]
  by_cases q : i ∈ s
  · simp [q, hb i q]
  · simp [q]
theorem missing0_testBit {n m : Nat} {sets : List (List Nat)} : (missing0 n sets).testBit m = true ↔ ∃ s ∈ sets, (2 ^ n - 1) ^^^ maskOf s = m := by
  unfold missing0
  rw [foldl_or_testBit (fun s => (2 ^ n - 1) ^^^ maskOf s) m]
  simp
theorem compl_lt {n : Nat} {s : List Nat} (h : s.Nodup) (hb : ∀ x ∈ s, x < n) : (2 ^ n - 1) ^^^ maskOf s < 2 ^ n := Nat.xor_lt_two_pow (Nat.sub_lt (Nat.two_pow_pos n) (by omega)) (mask_lt h hb)
theorem missing0_lt {n : Nat} {sets : List (List Nat)} (ok : SetsOk n sets) : missing0 n sets < 2 ^ (2 ^ n) := fam_lt fun m hm => by
  obtain ⟨s, h1, rfl⟩ := missing0_testBit.mp hm
  exact compl_lt (up_nodup (ok.up s h1)) (ok.lt s h1)
def missing (n : Nat) (sets : List (List Nat)) : Nat := within n (missing0 n sets) n
def hitting (n : Nat) (sets : List (List Nat)) : Nat := (2 ^ (2 ^ n) - 1) ^^^ missing n sets
def least (n : Nat) (sets : List (List Nat)) : Nat := hitting n sets ^^^ (hitting n sets &&& oneMore n (hitting n sets) n)
theorem missing_testBit {n m : Nat} {sets : List (List Nat)} (ok : SetsOk n sets) (hm : m < 2 ^ n) : (missing n sets).testBit m = true ↔ ∃ s ∈ sets, ∀ i ∈ s, m.testBit i = false := by
  unfold missing
  rw [within_all (missing0_lt ok) hm]
  constructor
  · rintro ⟨m', h1, h2, h3⟩
    obtain ⟨s, hs, rfl⟩ := missing0_testBit.mp h2
    refine ⟨s, hs, fun i hi => ?_⟩
    cases q : m.testBit i with
    | false => rfl
    | true =>
      have := h3 i q
      rw [compl_testBit (up_nodup (ok.up s hs)) (ok.lt s hs)] at this
      simp [hi] at this
  · rintro ⟨s, hs, h⟩
    refine ⟨_, compl_lt (up_nodup (ok.up s hs)) (ok.lt s hs), missing0_testBit.mpr ⟨s, hs, rfl⟩, fun i hi => ?_⟩
    rw [compl_testBit (up_nodup (ok.up s hs)) (ok.lt s hs)]
    have h1 : i < n := by
      have := Nat.ge_two_pow_of_testBit hi
      exact (Nat.pow_lt_pow_iff_right (by omega : 1 < 2)).mp (Nat.lt_of_le_of_lt this hm)
    have h2 : ¬ i ∈ s := fun hh => by rw [h i hh] at hi; cases hi
    simp [h1, h2]
theorem missing_lt {n : Nat} {sets : List (List Nat)} (ok : SetsOk n sets) : missing n sets < 2 ^ (2 ^ n) := within_lt (missing0_lt ok) n (Nat.le_refl _)
theorem hitting_lt {n : Nat} {sets : List (List Nat)} (ok : SetsOk n sets) : hitting n sets < 2 ^ (2 ^ n) := Nat.xor_lt_two_pow (Nat.sub_lt (Nat.two_pow_pos _) (by omega)) (missing_lt ok)
theorem hitting_testBit {n m : Nat} {sets : List (List Nat)} (ok : SetsOk n sets) : (hitting n sets).testBit m = true ↔ m < 2 ^ n ∧ ∀ s ∈ sets, ∃ i ∈ s, m.testBit i = true := by
  unfold hitting
  rw [Nat.testBit_xor, Nat.testBit_two_pow_sub_one]
  by_cases hm : m < 2 ^ n
  · have h := missing_testBit ok hm
    rw [decide_eq_true hm, Bool.true_xor]
    constructor
    · intro hh
      refine ⟨hm, fun s hs => ?_⟩
      by_cases q : ∃ i ∈ s, m.testBit i = true
      · exact q
      · have := h.mpr ⟨s, hs, fun i hi => by
          cases r : m.testBit i with
          | false => rfl
          | true => exact absurd ⟨i, hi, r⟩ q⟩
        rw [this] at hh; cases hh
    · rintro ⟨_, hh⟩
      cases r : (missing n sets).testBit m with
      | false => rfl
      | true =>
        obtain ⟨s, hs, hi⟩ := h.mp r
        obtain ⟨i, h1, h2⟩ := hh s hs
        rw [hi i h1] at h2; cases h2
  · have : (missing n sets).testBit m = false := Nat.testBit_lt_two_pow (Nat.lt_of_lt_of_le (missing_lt ok) (Nat.pow_le_pow_right (by omega) (by omega)))
    simp [hm, this]
theorem least_testBit {n m : Nat} {sets : List (List Nat)} (ok : SetsOk n sets) : (least n sets).testBit m = true ↔ (hitting n sets).testBit m = true ∧ ∀ k, k < n → m.testBit k = true → (hitting n sets).testBit (m - 2 ^ k) = false := by
  unfold least
  rw [Nat.testBit_xor, Nat.testBit_and]
  cases h : (hitting n sets).testBit m with
  | false => simp
  | true =>
    have hm := (hitting_testBit ok).mp h
    have h1 := oneMore_testBit (F := hitting n sets) n (Nat.le_refl _) m hm.1
    rw [Bool.true_and, Bool.true_xor]
    constructor
    · intro hh
      refine ⟨rfl, fun k hk hb => ?_⟩
      cases r : (hitting n sets).testBit (m - 2 ^ k) with
      | false => rfl
      | true => rw [h1.mpr ⟨k, hk, hb, r⟩] at hh; cases hh
    · rintro ⟨_, hh⟩
      cases r : (oneMore n (hitting n sets) n).testBit m with
      | false => rfl
      | true =>
        obtain ⟨k, hk, hb, q⟩ := h1.mp r
        rw [hh k hk hb] at q; cases q
theorem least_lt {n : Nat} {sets : List (List Nat)} (ok : SetsOk n sets) : least n sets < 2 ^ (2 ^ n) := Nat.xor_lt_two_pow (hitting_lt ok) (Nat.lt_of_le_of_lt Nat.and_le_left (hitting_lt ok))
/-- the rows that the bits of least tell -/
theorem least_minHit {n m : Nat} {sets : List (List Nat)} (ok : SetsOk n sets) (hm : m < 2 ^ n) : (least n sets).testBit m = true ↔ MinHit sets (bitsOf n m) := by
  have hh : ∀ (p : Nat → Bool) (l : List Nat), (∀ x, x < n → (p x = true ↔ x ∈ l)) → ((∀ s ∈ sets, ∃ i ∈ s, p i = true) ↔ Hits sets l) := fun p l hp => by
    unfold Hits
    constructor
    · intro h s hs
      obtain ⟨i, h1, h2⟩ := h s hs
      exact ⟨i, h1, (hp i (ok.lt s hs i h1)).mp h2⟩
    · intro h s hs
      obtain ⟨i, h1, h2⟩ := h s hs
      exact ⟨i, h1, (hp i (ok.lt s hs i h1)).mpr h2⟩
  rw [least_testBit ok, hitting_testBit ok, hh m.testBit (bitsOf n m) fun x hx => by rw [mem_bits]; simp [hx]]
  unfold MinHit
  have sub : ∀ k, k < n → m.testBit k = true → ((hitting n sets).testBit (m - 2 ^ k) = true ↔ Hits sets ((bitsOf n m).filter fun x => decide (x ≠ k))) := fun k hk hb => by
    obtain ⟨h1, h2⟩ := minus_bit hb
    have h3 : m - 2 ^ k < 2 ^ n := Nat.lt_of_le_of_lt (Nat.sub_le _ _) hm
    rw [hitting_testBit ok, hh (m - 2 ^ k).testBit ((bitsOf n m).filter fun x => decide (x ≠ k)) fun x hx => by
      rw [List.mem_filter, mem_bits, h2]
      by_cases q : k = x
      · subst q; simp
      · have q' : ¬ x = k := fun z => q z.symm
        simp [q, q', hx]]
    simp [h3]
  constructor
  · rintro ⟨⟨_, h1⟩, h2⟩
    refine ⟨bits_sorted _ _, h1, fun k hk => ?_⟩
    obtain ⟨hk1, hk2⟩ := mem_bits.mp hk
    intro hc
    have := (sub k hk1 hk2).mpr hc
    rw [h2 k hk1 hk2] at this; cases this
  · rintro ⟨_, h1, h2⟩
    refine ⟨⟨hm, h1⟩, fun k hk hb => ?_⟩
    cases r : (hitting n sets).testBit (m - 2 ^ k) with
    | false => rfl
    | true => exact absurd ((sub k hk hb).mp r) (h2 k (mem_bits.mpr ⟨hk, hb⟩))
/-- every least hitting row is told by a mask -/
theorem minHit_mask {n : Nat} {sets : List (List Nat)} {l : List Nat} (ok : SetsOk n sets) (h : MinHit sets l) : (∀ x ∈ l, x < n) ∧ bitsOf n (maskOf l) = l ∧ maskOf l < 2 ^ n := by
  have hb : ∀ x ∈ l, x < n := fun x hx => by
    by_cases q : ∃ s ∈ sets, x ∈ s
    · obtain ⟨s, h1, h2⟩ := q
      exact ok.lt s h1 x h2
    · refine absurd (fun s hs => ?_) (h.2.2 x hx)
      obtain ⟨n', h1, h2⟩ := h.2.1 s hs
      refine ⟨n', h1, List.mem_filter.mpr ⟨h2, decide_eq_true fun e => q ⟨s, hs, e ▸ h1⟩⟩⟩
  have nd := up_nodup h.1
  have e : bitsOf n (maskOf l) = l := rising_ext (bits_sorted _ _) h.1 fun a => by
    rw [mem_bits, mask_testBit nd, decide_eq_true_eq]
    exact ⟨fun q => q.2, fun q => ⟨hb a q, q⟩⟩
  exact ⟨hb, e, mask_lt nd hb⟩
/-- the rows told by the bits of a family -/
def rowsOf (n F : Nat) : List (List Nat) := (bitsOf (2 ^ n) F).map (bitsOf n)
theorem bits_inj {n a b : Nat} (ha : a < 2 ^ n) (hb : b < 2 ^ n) (h : bitsOf n a = bitsOf n b) : a = b := Nat.eq_of_testBit_eq fun i => by
  by_cases hi : i < n
  · have q : i ∈ bitsOf n a ↔ i ∈ bitsOf n b := by rw [h]
    rw [mem_bits, mem_bits] at q
    cases r : a.testBit i with
    | true => exact (q.mp ⟨hi, r⟩).2.symm
    | false =>
      cases r2 : b.testBit i with
      | false => rfl
      | true => rw [(q.mpr ⟨hi, r2⟩).2] at r; cases r
  · rw [Nat.testBit_lt_two_pow (Nat.lt_of_lt_of_le ha (Nat.pow_le_pow_right (by omega) (by omega))), Nat.testBit_lt_two_pow (Nat.lt_of_lt_of_le hb (Nat.pow_le_pow_right (by omega) (by omega)))]
theorem nodup_map {α β : Type} {f : α → β} : ∀ {l : List α}, (∀ a ∈ l, ∀ b ∈ l, f a = f b → a = b) → l.Nodup → (l.map f).Nodup
  | [], _, _ => List.nodup_nil
  | a :: l, hf, h => by
    have hd := List.nodup_cons.mp h
    rw [List.map_cons]
    refine List.nodup_cons.mpr ⟨fun hm => ?_, nodup_map (fun x hx y hy => hf x (List.mem_cons_of_mem _ hx) y (List.mem_cons_of_mem _ hy)) hd.2⟩
    obtain ⟨b, hb, e⟩ := List.mem_map.mp hm
    have := hf b (List.mem_cons_of_mem _ hb) a List.mem_cons_self e
    exact hd.1 (this ▸ hb)
theorem rows_nodup (n F : Nat) : (rowsOf n F).Nodup := nodup_map (fun a ha b hb e => bits_inj (mem_bits.mp ha).1 (mem_bits.mp hb).1 e) (up_nodup (bits_sorted _ _))
theorem rows_least {n : Nat} {sets : List (List Nat)} (ok : SetsOk n sets) (l : List Nat) : l ∈ rowsOf n (least n sets) ↔ MinHit sets l := by
  unfold rowsOf
  rw [List.mem_map]
  constructor
  · rintro ⟨m, h1, rfl⟩
    obtain ⟨h2, h3⟩ := mem_bits.mp h1
    exact (least_minHit ok h2).mp h3
  · intro h
    obtain ⟨h1, h2, h3⟩ := minHit_mask ok h
    exact ⟨maskOf l, mem_bits.mpr ⟨h3, (least_minHit ok h3).mpr (by rw [h2]; exact h)⟩, h2⟩
/-- a list without repetitions that lies within another one is no longer -/
theorem nodup_le {α : Type} [DecidableEq α] : ∀ {l m : List α}, l.Nodup → (∀ a ∈ l, a ∈ m) → l.length ≤ m.length
  | [], _, _, _ => Nat.zero_le _
  | a :: l, m, h, hm => by
    have hd := List.nodup_cons.mp h
    have h1 : ∀ b ∈ l, b ∈ m.erase a := fun b hb => (List.mem_erase_of_ne (fun e : b = a => hd.1 (e ▸ hb))).mpr (hm b (List.mem_cons_of_mem _ hb))
    have h2 := nodup_le hd.2 h1
    have h3 := List.length_erase_of_mem (hm a List.mem_cons_self)
    have h4 := List.length_pos_of_mem (hm a List.mem_cons_self)
    rw [List.length_cons]
    omega
end Mb

set_option Elab.async false
set_option linter.all false
set_option maxRecDepth 100000
set_option maxHeartbeats 4000000
/-! DL8: plain laws for the readings: loops, rows of numbers, order. -/
namespace DL
open PySem PySem.Spec PyProof.Rows L2

/-! ### comprehensions and loops -/
def lcStep (γ : DTG) (τt : DTT) (τe : DT) (ρ : DEnv) (d : D) (acc : List D) (k : List D → Prop) : Prop :=
  γ (.dat d) ρ fun ρ1 => τt x0 ρ1 fun b => if b = true then τe x0 ρ1 fun s => match s.fz with
      | .dat e => acc.length < sizeLine ∧ k (acc ++ [e])
      | _ => False
    else k acc
theorem lcL_cons {γ : DTG} {τt : DTT} {τe : DT} {ρ : DEnv} {d : D} {r acc : List D} {Q : List D → Prop} (h : lcStep γ τt τe ρ d acc fun a => lcL γ τt τe ρ r a Q) : lcL γ τt τe ρ (d :: r) acc Q := h
/-- each turn keeps I (what is left, what is there) -/
theorem lcL_inv {γ : DTG} {τt : DTT} {τe : DT} {ρ : DEnv} (I : List D → List D → Prop) {Q : List D → Prop} (hs : ∀ d r acc k, I (d :: r) acc → (∀ a, I r a → k a) → lcStep γ τt τe ρ d acc k) (hq : ∀ acc, I [] acc → Q acc) :
    ∀ items acc, I items acc → lcL γ τt τe ρ items acc Q
  | [], acc, h => hq acc h
  | d :: r, acc, h => lcL_cons (hs d r acc _ h fun a ha => lcL_inv I hs hq r a ha)
/-- each item gives one thing or nothing -/
theorem lcL_fm {γ : DTG} {τt : DTT} {τe : DT} {ρ : DEnv} (g : D → Option D) {Q : List D → Prop} : ∀ (items acc : List D), (∀ d ∈ items, ∀ acc k, acc.length < sizeLine → k (acc ++ (g d).toList) → lcStep γ τt τe ρ d acc k) →
    acc.length + items.length ≤ sizeLine → Q (acc ++ items.filterMap g) → lcL γ τt τe ρ items acc Q
  | [], acc, _, _, h => by rw [List.filterMap_nil, List.append_nil] at h; exact h
  | d :: r, acc, hs, hl, h => by
    rw [List.length_cons] at hl
    refine lcL_cons (hs d List.mem_cons_self acc _ (by omega) ?_)
    refine lcL_fm g r _ (fun e he => hs e (List.mem_cons_of_mem _ he)) ?_ ?_
    · rw [List.length_append]
      have : (g d).toList.length ≤ 1 := by cases g d <;> simp
      omega
    · rw [List.append_assoc]
      rw [List.filterMap_cons] at h
      cases e : g d with
      | none => rw [e] at h; exact h
      | some z => rw [e] at h; exact h
section
variable {α : Type} {γ : DTG} {τt : DTT} {τe : DT} {ρ : DEnv} {Q : List D → Prop} {f : α → D}
theorem lcL_fmA (g : α → Option D) : ∀ (l : List α) (acc : List D), (∀ a ∈ l, ∀ acc k, acc.length < sizeLine → k (acc ++ (g a).toList) → lcStep γ τt τe ρ (f a) acc k) →
    acc.length + l.length ≤ sizeLine → Q (acc ++ l.filterMap g) → lcL γ τt τe ρ (l.map f) acc Q
  | [], acc, _, _, h => by rw [List.filterMap_nil, List.append_nil] at h; exact h
  | d :: r, acc, hs, hl, h => by
    rw [List.length_cons] at hl
    refine lcL_cons (hs d List.mem_cons_self acc _ (by omega) ?_)
    refine lcL_fmA g r _ (fun e he => hs e (List.mem_cons_of_mem _ he)) ?_ ?_
    · rw [List.length_append]
      have : (g d).toList.length ≤ 1 := by cases g d <;> simp
      omega
    · rw [List.append_assoc]
      rw [List.filterMap_cons] at h
      cases e : g d with
      | none => rw [e] at h; exact h
      | some z => rw [e] at h; exact h
theorem lcL_mapA (e : α → D) {l : List α} (hs : ∀ a ∈ l, ∀ acc k, acc.length < sizeLine → k (acc ++ [e a]) → lcStep γ τt τe ρ (f a) acc k) (hl : l.length ≤ sizeLine) (h : Q (l.map e)) : lcL γ τt τe ρ (l.map f) [] Q :=
  lcL_fmA (fun a => some (e a)) l [] hs (by rw [List.length_nil, Nat.zero_add]; exact hl) (by rw [List.nil_append, show (fun a => some (e a)) = some ∘ e from rfl, List.filterMap_eq_map]; exact h)
theorem filterMap_if {β : Type} (p : α → Bool) (f : α → β) : ∀ l : List α, l.filterMap (fun a => if p a = true then some (f a) else none) = (l.filter p).map f
  | [] => rfl
  | a :: l => by
    rw [List.filterMap_cons, List.filter_cons, filterMap_if p f l]
    cases h : p a <;> simp
theorem lcL_filtA (p : α → Bool) (e : α → D) {l : List α} (hs : ∀ a ∈ l, ∀ acc k, acc.length < sizeLine → (p a = true → k (acc ++ [e a])) → (p a = false → k acc) → lcStep γ τt τe ρ (f a) acc k) (hl : l.length ≤ sizeLine) (h : Q ((l.filter p).map e)) : lcL γ τt τe ρ (l.map f) [] Q := by
  refine lcL_fmA (fun a => if p a = true then some (e a) else none) l [] (fun a ha acc k hl hk => hs a ha acc k hl (fun hp => ?_) fun hp => ?_) (by rw [List.length_nil, Nat.zero_add]; exact hl) (by rw [List.nil_append, filterMap_if]; exact h)
  · rw [hp] at hk; exact hk
  · rw [hp, if_neg (by simp)] at hk
    rw [Option.toList_none, List.append_nil] at hk
    exact hk
end
theorem forL_inv {γ : DTG} {τb : DTS} {x : Xn} {M : DEnds} (I : List D → DEnv → Prop) (hs : ∀ d r ρ k, I (d :: r) ρ → (∀ ρ', I r ρ' → k ρ') → γ (.dat d) ρ fun ρ1 => τb x { M with nx := k, ct := k, bk := M.nx } ρ1) (hq : ∀ ρ, I [] ρ → M.nx ρ) :
    ∀ items ρ, I items ρ → forL γ τb x M items ρ
  | [], ρ, h => hq ρ h
  | d :: r, ρ, h => hs d r ρ _ h fun ρ' h' => forL_inv I hs hq r ρ' h'
section
variable {α : Type} {γ : DTG} {τb : DTS} {x : Xn} {M : DEnds} {ρ : DEnv}
/-- over a list, by what was walked -/
theorem forL_pre (f : α → D) (l : List α) (I : List α → DEnv → Prop) (h0 : I [] ρ) (hs : ∀ pre a post, l = pre ++ a :: post → ∀ ρ k, I pre ρ → (∀ ρ', I (pre ++ [a]) ρ' → k ρ') → γ (.dat (f a)) ρ fun ρ1 => τb x { M with nx := k, ct := k, bk := M.nx } ρ1)
    (hq : ∀ ρ, I l ρ → M.nx ρ) : forL γ τb x M (l.map f) ρ := by
  have key : ∀ (post pre : List α) (ρ : DEnv), l = pre ++ post → I pre ρ → forL γ τb x M (post.map f) ρ := by
    intro post
    induction post with
    | nil =>
      intro pre ρ e h
      rw [List.append_nil] at e
      subst e
      exact hq ρ h
    | cons a post ih =>
      intro pre ρ e h
      exact hs pre a post e ρ _ h fun ρ' h' => ih (pre ++ [a]) ρ' (by rw [List.append_assoc]; exact e) h'
  exact key l [] ρ rfl h0
/-- lo, lo + 1, .. -/
theorem forL_rng (lo : Int) (n : Nat) (I : Nat → DEnv → Prop) (h0 : I 0 ρ) (hs : ∀ i, i < n → ∀ ρ k, I i ρ → (∀ ρ', I (i + 1) ρ' → k ρ') → γ (.dat (.int (lo + (i : Nat)))) ρ fun ρ1 => τb x { M with nx := k, ct := k, bk := M.nx } ρ1)
    (hq : ∀ ρ, I n ρ → M.nx ρ) : forL γ τb x M (rgD lo n) ρ := by
  refine forL_pre (fun k : Nat => PyData.int (lo + (k : Nat))) (List.range n) (fun pre ρ => I pre.length ρ) h0 (fun pre a post e ρ k h hk => ?_) (fun ρ h => hq ρ (by rw [List.length_range] at h; exact h))
  have hl : pre.length < n := by
    have := congrArg List.length e
    rw [List.length_range, List.length_append, List.length_cons] at this
    omega
  have ha : a = pre.length := by
    have h1 : (List.range n)[pre.length]? = some a := by rw [e]; simp
    rw [List.getElem?_range hl] at h1
    exact (Option.some.inj h1).symm
  rw [ha]
  exact hs pre.length hl ρ k h fun ρ' h' => hk ρ' (by rw [List.length_append]; exact h')
end

theorem snoc_ind {α : Type} {P : List α → Prop} (h0 : P []) (hs : ∀ l a, P l → P (l ++ [a])) (l : List α) : P l := by
  have key : ∀ n (l : List α), l.length = n → P l := by
    intro n
    induction n with
    | zero => intro l h; rw [List.length_eq_zero_iff.mp h]; exact h0
    | succ n ih =>
      intro l h
      rcases List.eq_nil_or_concat l with rfl | ⟨m, a, rfl⟩
      · exact h0
      · rw [List.concat_eq_append] at h ⊢
        exact hs m a (ih m (by rw [List.length_append, List.length_singleton] at h; omega))
  exact key l.length l rfl
/-! ### shape -/
theorem layAll_of : ∀ {ds : List D}, (∀ d ∈ ds, d.canLay0 = true) → PyData.canLayAll0 ds = true
  | [], _ => by rw [PyData.canLayAll0]
  | d :: ds, h => by
    rw [PyData.canLayAll0, h d List.mem_cons_self, layAll_of fun e he => h e (List.mem_cons_of_mem _ he)]
    rfl
theorem depAll_le {n : Nat} : ∀ {ds : List D}, (∀ d ∈ ds, d.depth ≤ n) → PyData.depthAll ds ≤ n
  | [], _ => by rw [PyData.depthAll]; exact Nat.zero_le _
  | d :: ds, h => by
    rw [PyData.depthAll]
    exact Nat.max_le.mpr ⟨h d List.mem_cons_self, depAll_le fun e he => h e (List.mem_cons_of_mem _ he)⟩
/-- data of a small depth -/
def Flat (n : Nat) (d : D) : Prop := (d.canLay0 = true ∧ noD d = true) ∧ d.depth ≤ n
theorem Flat.mono {n m : Nat} {d : D} (h : Flat n d) (hm : n ≤ m) : Flat m d := ⟨h.1, Nat.le_trans h.2 hm⟩
theorem flat_int (i : Int) (n : Nat := 0) : Flat n (.int i) := ⟨⟨by rw [PyData.canLay0], rfl⟩, by rw [PyData.depth]; exact Nat.zero_le _⟩
theorem flat_bool (b : Bool) (n : Nat := 0) : Flat n (.bool b) := ⟨⟨by rw [PyData.canLay0], rfl⟩, by rw [PyData.depth]; exact Nat.zero_le _⟩
theorem flat_none (n : Nat := 0) : Flat n .none := ⟨⟨by rw [PyData.canLay0], rfl⟩, by rw [PyData.depth]; exact Nat.zero_le _⟩
theorem flat_tuple {n : Nat} {ds : List D} (h : ∀ d ∈ ds, Flat n d) : Flat (n + 1) (.tuple ds) := ⟨⟨by rw [PyData.canLay0]; exact layAll_of fun d hd => (h d hd).1.1, by rw [noD]; exact noDs_of fun d hd => (h d hd).1.2⟩, by rw [PyData.depth]; exact Nat.succ_le_succ (depAll_le fun d hd => (h d hd).2)⟩
theorem flat_list {n : Nat} {ds : List D} (h : ∀ d ∈ ds, Flat n d) : Flat (n + 1) (.list ds) := ⟨⟨by rw [PyData.canLay0]; exact layAll_of fun d hd => (h d hd).1.1, by rw [noD]; exact noDs_of fun d hd => (h d hd).1.2⟩, by rw [PyData.depth]; exact Nat.succ_le_succ (depAll_le fun d hd => (h d hd).2)⟩
theorem Flat.sh {n : Nat} {d : D} (h : Flat n d) (hn : n ≤ 64) : shp d = true := by
  unfold shp SeqAt.shaped
  rw [h.1.1, h.1.2, Bool.true_and, Bool.and_true]
  exact decide_eq_true (Nat.le_trans h.2 hn)
theorem sh_int (i : Int) : shp (.int i) = true := (flat_int i 0).sh (by omega)
theorem sh_bool (i : Bool) : shp (.bool i) = true := (flat_bool i 0).sh (by omega)
theorem sh_nil : shp (.list []) = true := (flat_list (n := 0) fun d h => by cases h).sh (by omega)
theorem sh_nilT : shp (.tuple []) = true := (flat_tuple (n := 0) fun d h => by cases h).sh (by omega)

/-! ### equality -/
theorem eqv_int (i j : Int) : PyData.eqv (.int i) (.int j) = decide (i = j) := by rw [PyData.eqv]; rfl
theorem eqv_nil (ds : List D) : PyData.eqv (.list ds) (.list []) = ds.isEmpty := by
  rw [PyData.eqv]
  cases ds with
  | nil => rw [PyData.eqvAll]; rfl
  | cons d r => rw [PyData.eqvAll]; rfl
theorem eqv_nilT (ds : List D) : PyData.eqv (.tuple ds) (.tuple []) = ds.isEmpty := by
  rw [PyData.eqv]
  cases ds with
  | nil => rw [PyData.eqvAll]; rfl
  | cons d r => rw [PyData.eqvAll]; rfl

/-! ### rows of natural numbers -/
abbrev nI (n : Nat) : D := .int (n : Int)
def tup (l : List Nat) : D := .tuple (l.map nI)
theorem rg_nI (n : Nat) : rgD 0 n = (List.range n).map nI := by
  unfold rgD
  exact List.map_congr_left fun k _ => by rw [Int.zero_add]
theorem flat_nI (l : List Nat) : ∀ d ∈ l.map nI, Flat 0 d := fun d hd => by
  obtain ⟨n, _, rfl⟩ := List.mem_map.mp hd
  exact flat_int _
theorem flat_tup (l : List Nat) : Flat 1 (tup l) := flat_tuple (flat_nI l)
theorem flat_tups (L : List (List Nat)) : ∀ d ∈ L.map tup, Flat 1 d := fun d hd => by
  obtain ⟨n, _, rfl⟩ := List.mem_map.mp hd
  exact flat_tup _
theorem eqvAll_nI : ∀ a b : List Nat, PyData.eqvAll (a.map nI) (b.map nI) = decide (a = b)
  | [], [] => by rw [List.map_nil, PyData.eqvAll]; rfl
  | [], _ :: _ => by rw [List.map_nil, List.map_cons, PyData.eqvAll]; rfl
  | _ :: _, [] => by rw [List.map_nil, List.map_cons, PyData.eqvAll]; rfl
  | x :: xs, y :: ys => by
    rw [List.map_cons, List.map_cons, PyData.eqvAll, eqvAll_nI xs ys, eqv_int, Bool.eq_iff_iff]
    simp only [Bool.and_eq_true, decide_eq_true_eq, List.cons.injEq, Int.natCast_inj]
theorem eqv_tup (a b : List Nat) : PyData.eqv (tup a) (tup b) = decide (a = b) := by
  unfold tup
  rw [PyData.eqv, eqvAll_nI]
theorem nI_inj {a b : Nat} (h : nI a = nI b) : a = b := by injection h with h; omega
theorem map_nI_inj : ∀ {a b : List Nat}, a.map nI = b.map nI → a = b
  | [], [], _ => rfl
  | [], _ :: _, h => by simp at h
  | _ :: _, [], h => by simp at h
  | x :: xs, y :: ys, h => by
    rw [List.map_cons, List.map_cons] at h
    injection h with h1 h2
    rw [nI_inj h1, map_nI_inj h2]
theorem tup_inj {a b : List Nat} (h : tup a = tup b) : a = b := by
  unfold tup at h
  injection h with h
  exact map_nI_inj h

/-- a permutation of a mapped list is a mapped permutation -/
theorem unmap {α : Type} {f : α → D} (g : D → α) (hg : ∀ a, g (f a) = a) {l : List α} {es : List D} (h : es.Perm (l.map f)) : ∃ m : List α, es = m.map f ∧ m.Perm l := by
  refine ⟨es.map g, ?_, ?_⟩
  · rw [List.map_map]
    have : ∀ d ∈ es, (f ∘ g) d = d := fun d hd => by
      obtain ⟨a, _, rfl⟩ := List.mem_map.mp (h.mem_iff.mp hd)
      show f (g (f a)) = f a
      rw [hg]
    exact ((List.map_congr_left (g := id) this).trans (List.map_id es)).symm
  · have := h.map g
    rw [List.map_map] at this
    have e : l.map (g ∘ f) = l := List.map_id'' (fun a => hg a) l
    rwa [e] at this
def unI : D → Nat
  | .int i => i.toNat
  | _ => 0
theorem perm_nI {l : List Nat} {es : List D} (h : es.Perm (l.map nI)) : ∃ m : List Nat, es = m.map nI ∧ m.Perm l := unmap (f := nI) unI (fun a => Int.toNat_natCast a) h
def unT : D → List Nat
  | .tuple ds => ds.map unI
  | _ => []
theorem perm_tup {l : List (List Nat)} {es : List D} (h : es.Perm (l.map tup)) : ∃ m : List (List Nat), es = m.map tup ∧ m.Perm l := unmap unT (fun a => by
  show (a.map nI).map unI = a
  rw [List.map_map]
  exact List.map_id'' (fun n => Int.toNat_natCast n) a) h
theorem cut_take {α : Type} (xs : List α) (m : Nat) : cutG xs none (some (m : Int)) = xs.take m := by
  unfold cutG
  rw [HT.sIx_nat, HT.sIx_none, List.drop_zero, Nat.sub_zero, List.take_eq_take_iff]
  omega
theorem cut_drop {α : Type} (xs : List α) (m : Nat) : cutG xs (some (m : Int)) none = xs.drop m := by
  unfold cutG
  rw [HT.sIx_nat, HT.sIx_none]
  by_cases h : m ≤ xs.length
  · rw [Nat.min_eq_left h]
    exact List.take_of_length_le (Nat.le_of_eq (List.length_drop ..))
  · rw [Nat.min_eq_right (by omega), List.drop_of_length_le (Nat.le_refl _), List.drop_of_length_le (by omega), List.take_nil]
theorem solidAll_nI : ∀ l : List Nat, solidAll (l.map nI) = true
  | [] => by rw [List.map_nil, solidAll]
  | n :: l => by rw [List.map_cons, solidAll, solid, solidAll_nI l]; rfl
theorem solid_tup (l : List Nat) : solid (tup l) = true := by
  unfold tup
  rw [solid, solidAll_nI]
theorem solidAll_of : ∀ {ds : List D}, (∀ d ∈ ds, solid d = true) → solidAll ds = true
  | [], _ => by rw [solidAll]
  | d :: ds, h => by rw [solidAll, h d List.mem_cons_self, solidAll_of fun e he => h e (List.mem_cons_of_mem _ he)]; rfl
theorem solid_tups (L : List (List Nat)) : solid (.tuple (L.map tup)) = true := by
  rw [solid]
  exact solidAll_of fun d hd => by
    obtain ⟨a, _, rfl⟩ := List.mem_map.mp hd
    exact solid_tup a
/-! ### order -/
theorem leD_eq (a b : D) : leD a b = !PySem.W.dataLt b a := rfl
theorem leD_total : PySem.W.TotalLe leD := PySem.W.sortLe_total (PyProof.Rows.listOrd PyProof.Rows.itemOrd) false fun d => PySem.W.keyToks d
theorem toks_nI : ∀ {a b : List Nat}, PySem.W.keyToksAll (a.map nI) = PySem.W.keyToksAll (b.map nI) → a = b
  | [], [], _ => rfl
  | [], y :: ys, h => by rw [List.map_nil, List.map_cons, PySem.W.keyToksAll, PySem.W.keyToksAll] at h; simp at h
  | x :: xs, [], h => by rw [List.map_nil, List.map_cons, PySem.W.keyToksAll, PySem.W.keyToksAll] at h; simp at h
  | x :: xs, y :: ys, h => by
    rw [List.map_cons, List.map_cons, PySem.W.keyToksAll, PySem.W.keyToksAll, PySem.W.keyToks, PySem.W.keyToks] at h
    simp at h
    rw [toks_nI h.2, show x = y by omega]
theorem toks_tup {a b : List Nat} (h : PySem.W.keyToks (tup a) = PySem.W.keyToks (tup b)) : a = b := by
  unfold tup at h
  rw [PySem.W.keyToks, PySem.W.keyToks] at h
  exact toks_nI h
theorem leD_anti {a b : D} (h1 : leD a b = true) (h2 : leD b a = true) : PySem.W.keyToks a = PySem.W.keyToks b := by
  rw [leD_eq] at h1 h2
  have q1 : PySem.W.dataLt b a = false := by simpa using h1
  have q2 : PySem.W.dataLt a b = false := by simpa using h2
  exact (PyProof.Rows.listOrd PyProof.Rows.itemOrd).total _ _ q2 q1
/-- two lists with the same things are sorted alike -/
theorem sortD_perm {a b : List D} (h : a.Perm b) (hi : ∀ x ∈ a, ∀ y ∈ a, PySem.W.keyToks x = PySem.W.keyToks y → x = y) : sortD a = sortD b := by
  have t := leD_total
  refine List.Perm.eq_of_pairwise (le := fun x y => leD x y = true) (fun x y hx hy h1 h2 => hi x ?_ y ?_ (leD_anti h1 h2)) (List.pairwise_mergeSort t.trans (fun a b => by rcases t.total a b with h | h <;> simp [h]) a) (List.pairwise_mergeSort t.trans (fun a b => by rcases t.total a b with h | h <;> simp [h]) b)
    ((List.mergeSort_perm a leD).trans (h.trans (List.mergeSort_perm b leD).symm))
  · exact (List.mergeSort_perm a leD).mem_iff.mp hx
  · exact h.mem_iff.mpr ((List.mergeSort_perm b leD).mem_iff.mp hy)
theorem tups_inj (L : List (List Nat)) : ∀ x ∈ L.map tup, ∀ y ∈ L.map tup, PySem.W.keyToks x = PySem.W.keyToks y → x = y := fun x hx y hy h => by
  obtain ⟨a, _, rfl⟩ := List.mem_map.mp hx
  obtain ⟨b, _, rfl⟩ := List.mem_map.mp hy
  rw [toks_tup h]
theorem sortD_tups {L M : List (List Nat)} (h : L.Perm M) : sortD (L.map tup) = sortD (M.map tup) := sortD_perm (h.map tup) (tups_inj L)
/-- numbers in order -/
def sortN (l : List Nat) : List Nat := l.mergeSort fun a b => decide (a ≤ b)
theorem leD_nI (a b : Nat) : leD (nI a) (nI b) = decide (a ≤ b) := by
  rw [leD_eq, PySem.W.dataLt_int, Bool.eq_iff_iff]
  simp
theorem sortD_nI (l : List Nat) : sortD (l.map nI) = (sortN l).map nI := (PySem.W.sort_maps nI fun a _ b _ => (leD_nI a b).symm).symm
theorem sortN_perm (l : List Nat) : (sortN l).Perm l := List.mergeSort_perm l _
theorem sortN_le (l : List Nat) : (sortN l).Pairwise (· ≤ ·) := by
  have := List.pairwise_mergeSort (le := fun a b : Nat => decide (a ≤ b)) (fun a b c h1 h2 => by simp at *; omega) (fun a b => by simp; omega) l
  exact this.imp fun h => of_decide_eq_true h
theorem sortN_up {l : List Nat} (h : l.Nodup) : (sortN l).Pairwise (· < ·) := by
  have h1 := sortN_le l
  have h2 : (sortN l).Nodup := (sortN_perm l).nodup_iff.mpr h
  refine (h1.and h2).imp fun {a b} h => ?_
  omega
theorem sortN_of {l m : List Nat} (h : l.Perm m) (hm : m.Pairwise (· < ·)) : sortN l = m := Mb.rising_ext (sortN_up (h.nodup_iff.mpr (Mb.up_nodup hm))) hm fun a => by
  rw [(sortN_perm l).mem_iff, h.mem_iff]
/-! what sorted asks for -/
theorem alike_nI (l : List Nat) : PySem.W.AllAlike (l.map nI) := fun d hd e he => by
  obtain ⟨a, _, rfl⟩ := List.mem_map.mp hd
  obtain ⟨b, _, rfl⟩ := List.mem_map.mp he
  rw [PySem.W.alike]
theorem sortable_nI (l : List Nat) : PySem.W.Sortable (l.map nI) := .inr fun d hd => by
  obtain ⟨a, _, rfl⟩ := List.mem_map.mp hd
  exact ⟨by simp, by simp⟩
theorem dep_nI (l : List Nat) : ∀ d ∈ l.map nI, d.depth ≤ 60 := fun d hd => Nat.le_trans (flat_nI l d hd).2 (by omega)
theorem alikeAll_nI : ∀ a b : List Nat, PySem.W.alikeAll (a.map nI) (b.map nI) = true
  | [], _ => by rw [List.map_nil, PySem.W.alikeAll]
  | _ :: _, [] => by rw [List.map_nil, List.map_cons, PySem.W.alikeAll]
  | x :: xs, y :: ys => by
    rw [List.map_cons, List.map_cons, PySem.W.alikeAll, PySem.W.alike, alikeAll_nI xs ys]
    rfl
theorem alike_tups (L : List (List Nat)) : PySem.W.AllAlike (L.map tup) := fun d hd e he => by
  obtain ⟨a, _, rfl⟩ := List.mem_map.mp hd
  obtain ⟨b, _, rfl⟩ := List.mem_map.mp he
  unfold tup
  rw [PySem.W.alike]
  exact alikeAll_nI a b
theorem sortable_tups {L : List (List Nat)} (h : [] ∉ L) : PySem.W.Sortable (L.map tup) := .inl fun d hd => by
  obtain ⟨a, ha, rfl⟩ := List.mem_map.mp hd
  cases a with
  | nil => exact absurd ha h
  | cons x xs => exact ⟨nI x, xs.map nI, rfl⟩
theorem dep_tups (L : List (List Nat)) : ∀ d ∈ L.map tup, d.depth ≤ 60 := fun d hd => Nat.le_trans (flat_tups L d hd).2 (by omega)
/-! sorted, as a step -/
theorem bSorted_nI {l : List Nat} {s : S} {Q : S → Prop} (e : s.d = .list (l.map nI)) (h : Q (.own ((sortN l).map nI))) : bSorted [s] Q := by
  unfold bSorted
  dsimp only
  rw [e]
  refine ⟨⟨fun _ => ⟨alike_nI l, sortable_nI l⟩, dep_nI l⟩, ?_⟩
  rw [sortD_nI]
  exact h
theorem bSorted_nIT {l : List Nat} {s : S} {Q : S → Prop} (e : s.d = .tuple (l.map nI)) (h : Q (.own ((sortN l).map nI))) : bSorted [s] Q := by
  unfold bSorted
  dsimp only
  rw [e]
  refine ⟨⟨⟨alike_nI l, sortable_nI l⟩, dep_nI l⟩, ?_⟩
  rw [sortD_nI]
  exact h
theorem bSorted_tups {L : List (List Nat)} {s : S} {Q : S → Prop} (e : s.d = .list (L.map tup)) (hn : 2 ≤ L.length → [] ∉ L) (h : Q (.own (sortD (L.map tup)))) : bSorted [s] Q := by
  unfold bSorted
  dsimp only
  rw [e]
  exact ⟨⟨fun h2 => ⟨alike_tups L, sortable_tups (hn (by rw [List.length_map] at h2; exact h2))⟩, dep_tups L⟩, h⟩
/-! numbers, as Python's -/
theorem shl_nat (a b : Nat) : (a : Int) * 2 ^ ((b : Int)).toNat = ((a * 2 ^ b : Nat) : Int) := by rw [Int.toNat_natCast]; simp
theorem shr_nat (a b : Nat) : (a : Int) / 2 ^ ((b : Int)).toNat = ((a / 2 ^ b : Nat) : Int) := by rw [Int.toNat_natCast]; simp
theorem and_nat (a b : Nat) : Builtin.bitAnd (a : Int) (b : Int) = ((a &&& b : Nat) : Int) := by rw [bitAnd_pp (by omega) (by omega), Int.toNat_natCast, Int.toNat_natCast]
theorem or_nat (a b : Nat) : Builtin.bitOr (a : Int) (b : Int) = ((a ||| b : Nat) : Int) := by rw [L2.bitOr_nn (by omega) (by omega), Int.toNat_natCast, Int.toNat_natCast]
theorem xor_nat (a b : Nat) : Builtin.bitXor (a : Int) (b : Int) = ((a ^^^ b : Nat) : Int) := by
  have h := Mb.xor_and a b
  rw [PyProof.Rows.bitXor_and, and_nat]
  omega
theorem neg_and (a : Nat) (h : a ≠ 0) : Builtin.bitAnd (a : Int) (-(a : Int)) = ((a - (a &&& (a - 1)) : Nat) : Int) := by
  have h1 : a &&& (a - 1) ≤ a := Nat.and_le_left
  rw [bitAnd_pn (by omega) (by omega)]
  have e : (Builtin.bitNot (-(a : Int))).toNat = a - 1 := by
    show (- -(a : Int) - 1).toNat = a - 1
    omega
  rw [e, Int.toNat_natCast]
  omega
theorem cshl_nat {a b n : Nat} (h : a < 2 ^ n) (hn : n + b ≤ 134217728) : CShl (a : Int) (b : Int) := shl_ok (n := n) (by rw [Int.natAbs_natCast]; exact h) hn
theorem bits_pow (m : Nat) : Builtin.Int.intBits (((2 ^ m : Nat)) : Int) = m + 1 := by
  have h := Nat.two_pow_pos m
  unfold Builtin.Int.intBits
  generalize hx : 2 ^ m = x at h
  have h2 : ((((x : Nat) : Int) == 0) = false) := by simp; omega
  have h3 : x.log2 = m := by rw [← hx, Nat.log2_two_pow]
  simp [h2, h3, show ¬ x = 0 by omega]
theorem atI_nat {α : Type} (xs : List α) (i : Nat) : atI xs (i : Int) = xs[i]? := by
  unfold atI ixN
  by_cases h : i < xs.length
  · simp [h]
  · simp [h]
end DL

set_option Elab.async false
set_option linter.all false
set_option maxRecDepth 100000
set_option maxHeartbeats 4000000
namespace Law
open PySem PySem.Spec PyProof.Rows L2 DL Mb

/-! ### the promises -/
def sp__law_draw : DSp := fun ss _ Q => ∃ many : Nat, (0 < many ∧ many < 2 ^ 30) ∧ ss = [.tok, .dat (nI many)] ∧ ∀ r, r < many → Q (.dat (nI r))
def isSeq (s : S) (ds : List D) : Prop := s = .dat (.list ds) ∨ s = .dat (.tuple ds)
def sp__law_pick : DSp := fun ss _ Q => ∃ (s : S) (ds : List D), (0 < ds.length ∧ ds.length < 2 ^ 30) ∧ ss = [.tok, s] ∧ isSeq s ds ∧ ∀ d ∈ ds, Q (.dat d)
def sp__law_mixed : DSp := fun ss _ Q => ∃ (s : S) (ds : List D), ds.length < 2 ^ 20 ∧ ss = [.tok, s] ∧ isSeq s ds ∧ ∀ es, es.Perm ds → Q (.own es)
def sp__mask : DSp := fun ss _ Q => ∃ l : List Nat, (l.length < 2 ^ 20 ∧ ∀ n ∈ l, n < 2 ^ 20) ∧ ss = [.dat (tup l)] ∧ Q (.dat (nI (maskOf l)))
def sp__numbers : DSp := fun ss _ Q => ∃ F n : Nat, (n ≤ 2 ^ 20 ∧ F < 2 ^ n) ∧ ss = [.dat (nI F)] ∧ Q (.dat (tup (bitsOf n F)))
def sp__families_without : DSp := fun ss _ Q => ∃ n : Nat, n ≤ 20 ∧ ss = [.dat (nI n)] ∧ Q (.own ((famAll n).map nI))
def sp__one_more : DSp := fun ss _ Q => ∃ n F : Nat, (n ≤ 20 ∧ F < 2 ^ (2 ^ n)) ∧ ss = [.dat (.list ((famAll n).map nI)), .dat (nI F)] ∧ Q (.dat (nI (oneMore n F n)))
def sp__within : DSp := fun ss _ Q => ∃ n F : Nat, (n ≤ 20 ∧ F < 2 ^ (2 ^ n)) ∧ ss = [.dat (.list ((famAll n).map nI)), .dat (nI F)] ∧ Q (.dat (nI (within n F n)))
def sp__members : DSp := fun ss _ Q => ∃ n F : Nat, (n ≤ 20 ∧ F < 2 ^ (2 ^ n) ∧ (bitsOf (2 ^ n) F).length ≤ 2000) ∧ ss = [.dat (nI F)] ∧ Q (.own ((rowsOf n F).map tup))
def sp_least_hitting : DSp := fun ss _ Q => ∃ (sets C : List (List Nat)), (SetsOk 20 sets ∧ sets.length ≤ 1000 ∧ C.length ≤ 2000 ∧ ∀ l, MinHit sets l → l ∈ C) ∧ ss = [.dat (.tuple (sets.map tup))] ∧
  ∀ L : List (List Nat), L.Nodup → (∀ l, l ∈ L ↔ MinHit sets l) → Q (.dat (.tuple (sortD (L.map tup))))
def subs (ns : List Nat) : List (List Nat) := ns.foldl (fun F n => F ++ F.map (· ++ [n])) [[]]
def hitsB (sets : List (List Nat)) (l : List Nat) : Bool := sets.all fun s => s.any fun n => decide (n ∈ l)
def minB (sets : List (List Nat)) (l : List Nat) : Bool := hitsB sets l && l.all fun n => !hitsB sets (l.filter fun m => decide (m ≠ n))
def sp__law_subsets : DSp := fun ss _ Q => ∃ ns : List Nat, ns.length ≤ 8 ∧ ss = [.dat (.list (ns.map nI))] ∧ Q (.own ((subs ns).map tup))
def sp__law_hits : DSp := fun ss _ Q => ∃ (s : S) (l : List Nat) (sets : List (List Nat)), (l.length ≤ 1000 ∧ sets.length ≤ 1000 ∧ ∀ t ∈ sets, t.length ≤ 1000) ∧ ss = [s, .dat (.tuple (sets.map tup))] ∧ isSeq s (l.map nI) ∧ Q (.dat (.bool (hitsB sets l)))
def sp__law_is_least : DSp := fun ss _ Q => ∃ (l : List Nat) (sets : List (List Nat)), (l.length ≤ 1000 ∧ sets.length ≤ 1000 ∧ ∀ t ∈ sets, t.length ≤ 1000) ∧ ss = [.dat (tup l), .dat (.tuple (sets.map tup))] ∧ Q (.dat (.bool (minB sets l)))
def sp__law_hitting : DSp := fun ss _ Q => ∃ (ns : List Nat) (sets : List (List Nat)), (ns.length ≤ 8 ∧ ns.Nodup ∧ sets.length ≤ 1000 ∧ ∀ t ∈ sets, t.length ≤ 1000) ∧ ss = [.dat (.list (ns.map nI)), .dat (.tuple (sets.map tup))] ∧ Q (.dat (.tuple (sortD (((subs ns).filter (minB sets)).map tup))))
def sp__law_drawn_sets : DSp := fun ss _ Q => ∃ ns : List Nat, (ns.length ≤ 8 ∧ ns ≠ [] ∧ ns.Pairwise (· < ·)) ∧ ss = [.tok, .dat (.list (ns.map nI))] ∧ ∀ sets : List (List Nat), sets.length ≤ 9 → (∀ s ∈ sets, s.Pairwise (· < ·) ∧ ∀ x ∈ s, x ∈ ns) → Q (.dat (.tuple (sets.map tup)))
def prods (rows : List (List Nat)) : List (List Nat) := rows.foldl (fun F r => F.flatMap fun lot => r.map fun n => lot ++ [n]) [[]]
def sp__law_products : DSp := fun ss _ Q => ∃ rows : List (List Nat), (rows.length ≤ 6 ∧ ∀ r ∈ rows, r.length ≤ 3) ∧ ss = [.dat (.list (rows.map tup))] ∧ Q (.dat (.tuple (sortD (((prods rows).map sortN).map tup))))
-- N [(0, 'numbers'), (1, 'number')]
def τ__mask : DTS :=
  (τRet (τCB bSum (τCons (τLc (τIterB (τVar 0)) (γName 1) τYes (τOp (bI CShl fun i j => .int (i * 2 ^ j.toNat)) (τC (.int 1)) (τVar 1)) [1]) τNil)))
-- N [(0, 'mask'), (1, 'number')]
def τ__numbers : DTS :=
  (τRet (τCB bTuple (τCons (τLc (τRng1 (τCons (τBits (τVar 0)) τNil)) (γName 1) (τTru (τOp (bI0 fun i j => .int (Builtin.bitAnd i j)) (τOp (bI (fun _ j => 0 ≤ j) fun i j => .int (i / 2 ^ j.toNat)) (τVar 0) (τVar 1)) (τC (.int 1)))) (τVar 1) [1]) τNil)))
-- N [(0, 'size'), (1, 'found'), (2, 'number'), (3, 'family'), (4, 'further')]
def τ__families_without : DTS :=
  (τSeq (τAsg (τLst τNil) (γName 1))
    (τSeq (τFor (τRng1 (τCons (τVar 0) τNil)) (γName 2)
    (τSeq (τAsg (τOp (bI0 fun i j => .int (i - j)) (τOp (bI CShl fun i j => .int (i * 2 ^ j.toNat)) (τC (.int 1)) (τOp (bI CShl fun i j => .int (i * 2 ^ j.toNat)) (τC (.int 1)) (τVar 2))) (τC (.int 1))) (γName 3))
    (τSeq (τFor (τRng2 (τCons (τOp bPlus (τVar 2) (τC (.int 1))) (τCons (τVar 0) τNil))) (γName 4)
    (τAsg (τOp (bI0 fun i j => .int (Builtin.bitOr i j)) (τVar 3) (τOp (bI CShl fun i j => .int (i * 2 ^ j.toNat)) (τVar 3) (τOp (bI CShl fun i j => .int (i * 2 ^ j.toNat)) (τC (.int 1)) (τVar 4)))) (γName 3)))
    (τApp 1 (τVar 3)))))
    (τRetV 1)))
-- N [(0, 'without'), (1, 'family'), (2, 'more'), (3, 'number')]
def τ__one_more : DTS :=
  (τSeq (τAsg (τC (.int 0)) (γName 2))
    (τSeq (τFor (τRng1 (τCons (τCB bLen (τCons (τVar 0) τNil)) τNil)) (γName 3)
    (τAsg (τOp (bI0 fun i j => .int (Builtin.bitOr i j)) (τVar 2) (τOp (bI CShl fun i j => .int (i * 2 ^ j.toNat)) (τOp (bI0 fun i j => .int (Builtin.bitAnd i j)) (τVar 1) (τOp bIx (τVar 0) (τVar 3))) (τOp (bI CShl fun i j => .int (i * 2 ^ j.toNat)) (τC (.int 1)) (τVar 3)))) (γName 2)))
    (τRetV 2)))
-- N [(0, 'without'), (1, 'family'), (2, 'number')]
def τ__within : DTS :=
  (τSeq (τFor (τRng1 (τCons (τCB bLen (τCons (τVar 0) τNil)) τNil)) (γName 2)
    (τAsg (τOp (bI0 fun i j => .int (Builtin.bitOr i j)) (τVar 1) (τOp (bI0 fun i j => .int (Builtin.bitAnd i j)) (τOp (bI (fun _ j => 0 ≤ j) fun i j => .int (i / 2 ^ j.toNat)) (τVar 1) (τOp (bI CShl fun i j => .int (i * 2 ^ j.toNat)) (τC (.int 1)) (τVar 2))) (τOp bIx (τVar 0) (τVar 2)))) (γName 1)))
    (τRetV 1))
-- N [(0, 'family'), (1, 'found'), (2, 'one')]
def τ__members : DTS :=
  (τSeq (τAsg (τLst τNil) (γName 1))
    (τSeq (τWhile (τTru (τVar 0))
    (τSeq (τIfS (τTest (τOp bEq (τCB bLen (τCons (τVar 1) τNil)) (τC (.int 2000))))
    τNever
    τNext)
    (τSeq (τAsg (τOp (bI0 fun i j => .int (Builtin.bitAnd i j)) (τVar 0) (τUn (fun i => -i) (τVar 0))) (γName 2))
    (τSeq (τApp 1 (τCall sp__numbers (τCons (τOp (bI0 fun i j => .int (i - j)) (τBits (τVar 2)) (τC (.int 1))) τNil)))
    (τAsg (τOp (bI0 fun i j => .int (Builtin.bitXor i j)) (τVar 0) (τVar 2)) (γName 0))))))
    (τRetV 1)))
-- N [(0, 'sets'), (1, 'size'), (2, 'without'), (3, 'whole'), (4, 'missing'), (5, 'numbers'), (6, 'hitting'), (7, 'least')]
def τ_least_hitting : DTS :=
  (τSeq (τAsg (τOp bMaxDef (τLc (τIterB (τVar 0)) (γName 5) (τTru (τVar 5)) (τOp bPlus (τOp bIx (τVar 5) (τUn (fun i => -i) (τC (.int 1)))) (τC (.int 1))) [5]) (τC (.int 0))) (γName 1))
    (τSeq (τAsg (τCall sp__families_without (τCons (τVar 1) τNil)) (γName 2))
    (τSeq (τAsg (τOp (bI0 fun i j => .int (i - j)) (τOp (bI CShl fun i j => .int (i * 2 ^ j.toNat)) (τC (.int 1)) (τVar 1)) (τC (.int 1))) (γName 3))
    (τSeq (τAsg (τC (.int 0)) (γName 4))
    (τFrz 0 (τSeq (τFor (τIter (τVar 0)) (γName 5)
    (τAsg (τOp (bI0 fun i j => .int (Builtin.bitOr i j)) (τVar 4) (τOp (bI CShl fun i j => .int (i * 2 ^ j.toNat)) (τC (.int 1)) (τOp (bI0 fun i j => .int (Builtin.bitXor i j)) (τVar 3) (τCall sp__mask (τCons (τVar 5) τNil))))) (γName 4)))
    (τSeq (τAsg (τCall sp__within (τCons (τVar 2) (τCons (τVar 4) τNil))) (γName 4))
    (τSeq (τAsg (τOp (bI0 fun i j => .int (Builtin.bitXor i j)) (τOp (bI0 fun i j => .int (i - j)) (τOp (bI CShl fun i j => .int (i * 2 ^ j.toNat)) (τC (.int 1)) (τOp (bI CShl fun i j => .int (i * 2 ^ j.toNat)) (τC (.int 1)) (τVar 1))) (τC (.int 1))) (τVar 4)) (γName 6))
    (τSeq (τAsg (τOp (bI0 fun i j => .int (Builtin.bitXor i j)) (τVar 6) (τOp (bI0 fun i j => .int (Builtin.bitAnd i j)) (τVar 6) (τCall sp__one_more (τCons (τVar 2) (τCons (τVar 6) τNil))))) (γName 7))
    (τRet (τCB bTuple (τCons (τCB bSorted (τCons (τCall sp__members (τCons (τVar 7) τNil)) τNil)) τNil))))))))))))
-- N [(0, 'flow'), (1, 'some')]
def τ__law_pick : DTS :=
  (τRet (τOp bIx (τVar 1) (τCall sp__law_draw (τCons (τVar 0) (τCons (τCB bLen (τCons (τVar 1) τNil)) τNil)))))
-- N [(0, 'some'), (1, 'found'), (2, 'one'), (3, 'lot')]
def τ__law_subsets : DTS :=
  (τSeq (τAsg (τLst (τCons (τTup τNil) τNil)) (γName 1))
    (τFrz 0 (τSeq (τFor (τIter (τVar 0)) (γName 2)
    (τAsg (τOp bPlus (τVar 1) (τLc (τIterB (τVar 1)) (γName 3) τYes (τOp bPlus (τVar 3) (τTup (τCons (τVar 2) τNil))) [3])) (γName 1)))
    (τRetV 1))))
-- N [(0, 'lot'), (1, 'sets'), (2, 'one'), (3, 'n')]
def τ__law_hits : DTS :=
  (τRet (τOp bEq (τLc (τIterB (τVar 1)) (γName 2) (τTest (τOp bEq (τLc (τIterB (τVar 2)) (γName 3) (τTest (τOp (bIn false) (τVar 3) (τVar 0))) (τVar 3) [3]) (τLst τNil))) (τVar 2) [2]) (τLst τNil)))
-- N [(0, 'lot'), (1, 'sets'), (2, 'n'), (3, 'm')]
def τ__law_is_least : DTS :=
  (τRet (τAndV (τCall sp__law_hits (τCons (τVar 0) (τCons (τVar 1) τNil))) (τOp bEq (τLc (τIterB (τVar 0)) (γName 2) (τTru (τCall sp__law_hits (τCons (τLc (τIterB (τVar 0)) (γName 3) (τTest (τOp bNe (τVar 3) (τVar 2))) (τVar 3) [3]) (τCons (τVar 1) τNil)))) (τVar 2) [2]) (τLst τNil))))
-- N [(0, 'numbers'), (1, 'sets'), (2, 'lot')]
def τ__law_hitting : DTS :=
  (τRet (τCB bTuple (τCons (τCB bSorted (τCons (τLc (τIterB (τCall sp__law_subsets (τCons (τVar 0) τNil))) (γName 2) (τTru (τCall sp__law_is_least (τCons (τVar 2) (τCons (τVar 1) τNil)))) (τVar 2) [2]) τNil)) τNil)))
-- N [(0, 'rows'), (1, 'found'), (2, 'row'), (3, 'longer'), (4, 'lot'), (5, 'n')]
def τ__law_products : DTS :=
  (τSeq (τAsg (τLst (τCons (τTup τNil) τNil)) (γName 1))
    (τFrz 0 (τSeq (τFor (τIter (τVar 0)) (γName 2)
    (τSeq (τAsg (τLst τNil) (γName 3))
    (τFrz 1 (τSeq (τFor (τIter (τVar 1)) (γName 4)
    (τExt 3 (τLc (τIterB (τVar 2)) (γName 5) τYes (τOp bPlus (τVar 4) (τTup (τCons (τVar 5) τNil))) [5])))
    (τAsg (τCB bList (τCons (τVar 3) τNil)) (γName 1))))))
    (τRet (τCB bTuple (τCons (τCB bSorted (τCons (τLc (τIterB (τVar 1)) (γName 4) τYes (τCB bTuple (τCons (τCB bSorted (τCons (τVar 4) τNil)) τNil)) [4]) τNil)) τNil))))))
local macro_rules | `(tactic| walk_at "dl") => `(tactic| simp only [τSeq, τAsg, τRet, τRetV, τOp, τC, τVar, τCons, consQ, τNil, τTup, τLst, τCB, τLc, τIterB, τIter, τRng1, τRng2, τTest, τTru, tru, τNot, τAnd, τOr, τAndV, τOrV, τNotV, τIf, τIfS, τSl, τPart, τNoPart, τFor, τApp, τExt, τFrz, τNever, τNext, τCall, callQ, anyBor, layAll, S.lay, S.d, S.fz, noBor, γName, lk, stv, DL.envOf, noneL, wipeE, bI0, bI, bPlus, bEq, bNe, bIx, bSl, bLen, bSum, bTuple, bList, bMaxDef, datas, τBits, τUn, τYes, τIsi, dctB, S.liv, lcStep, reduceIte, Bool.false_eq_true, List.length_cons, List.length_nil, Nat.reduceAdd, Nat.sub_self, Nat.reduceSub, true_and, and_true, Nat.zero_le, List.nil_append, ne_eq, reduceCtorEq, not_false_eq_true, sh_int, sh_bool, sh_nil, sh_nilT, S.solid, DL.solid, DL.solidAll, eqv_int, eqv_nil, eqv_nilT, and_self, decide_eq_true_eq, Option.map_some])
theorem sl_eq : sizeLine = 16777216 := by decide +kernel
theorem sem__mask (ss : List S) (x : Xn) (Q : S → Prop) (h : sp__mask ss x Q) : τ__mask x { nx := fun _ => Q (.dat .none), rt := Q } (DL.envOf ss 2) := by
  obtain ⟨l, ⟨hl, hb⟩, rfl, q⟩ := h
  unfold τ__mask tup
  walk_at "dl"
  have e := sl_eq
  refine lcL_mapA (fun n => nI (2 ^ n)) (fun n hn acc k ha hk => ?_) (by omega) ⟨l.map fun n => ((2 ^ n : Nat) : Int), by simp [List.map_map, Function.comp_def], ?_⟩
  · have := hb n hn
    walk_at "dl"
    refine ⟨cshl_nat (a := 1) (n := 1) (by omega) (by omega), ha, ?_⟩
    have e2 := shl_nat 1 n
    rw [Nat.one_mul] at e2
    exact e2 ▸ hk
  · have : (l.map fun n => ((2 ^ n : Nat) : Int)).sum = ((maskOf l : Nat) : Int) := by
      unfold maskOf
      clear q hb hl
      induction l with
      | nil => rfl
      | cons a l ih => rw [List.map_cons, List.map_cons, List.sum_cons, List.sum_cons, ih]; omega
    rw [this]
    exact q
theorem bl_lt (F : Nat) : ∃ b : Nat, Builtin.Int.intBits (F : Int) = b ∧ F < 2 ^ b ∧ ∀ n, F < 2 ^ n → b ≤ n := by
  refine ⟨_, rfl, ?_, fun n hn => PyProof.Rows.intBits_le (by rw [Int.natAbs_natCast]; exact hn)⟩
  unfold Builtin.Int.intBits
  by_cases h : F = 0
  · subst h; simp
  · have h2 : ((((F : Nat) : Int) == 0) = false) := by simp; omega
    simp [h2, h]
    exact Nat.lt_log2_self
theorem sem__numbers (ss : List S) (x : Xn) (Q : S → Prop) (h : sp__numbers ss x Q) : τ__numbers x { nx := fun _ => Q (.dat .none), rt := Q } (DL.envOf ss 2) := by
  obtain ⟨F, n, ⟨hn, hF⟩, rfl, q⟩ := h
  obtain ⟨b, e1, h1, h2⟩ := bl_lt F
  have h3 := h2 n hF
  have e := sl_eq
  unfold τ__numbers
  walk_at "dl"
  rw [e1]
  refine ⟨by omega, ?_⟩
  rw [Int.toNat_natCast, rg_nI]
  refine lcL_filtA F.testBit nI (fun i hi acc k ha hk hk2 => ?_) (by rw [List.length_range]; omega) ?_
  · walk_at "dl"
    rw [shr_nat, show (1 : Int) = ((1 : Nat) : Int) from rfl, and_nat]
    have e3 : (F / 2 ^ i) &&& 1 = (F.testBit i).toNat := by
      rw [Nat.and_one_is_mod, Nat.testBit_eq_decide_div_mod_eq]
      rcases Nat.mod_two_eq_zero_or_one (F / 2 ^ i) with h | h <;> simp [h]
    rw [e3]
    refine ⟨by omega, ?_⟩
    cases r : F.testBit i
    · rw [if_neg (by decide)]; exact hk2 r
    · rw [if_pos (by decide)]; exact ⟨ha, hk r⟩
  · rw [bits_cut h1 hF] at q
    exact q
theorem one_shl (n : Nat) : (1 : Int) * 2 ^ ((n : Int)).toNat = ((2 ^ n : Nat) : Int) := by
  have := shl_nat 1 n
  rw [Nat.one_mul] at this
  exact this
theorem cshl1 {n : Nat} (h : n ≤ 134217727) : CShl (1 : Int) (n : Int) := cshl_nat (a := 1) (n := 1) (by omega) (by omega)
theorem pow20 {n : Nat} (h : n ≤ 20) : 2 ^ n ≤ 1048576 := Nat.pow_le_pow_right (n := 2) (by omega) h
theorem pow_m1 (n : Nat) : ((2 ^ n : Nat) : Int) - 1 = ((2 ^ n - 1 : Nat) : Int) := by
  have := Nat.two_pow_pos n
  omega
theorem sem__families_without (ss : List S) (x : Xn) (Q : S → Prop) (h : sp__families_without ss x Q) : τ__families_without x { nx := fun _ => Q (.dat .none), rt := Q } (DL.envOf ss 5) := by
  obtain ⟨n, hn, rfl, q⟩ := h
  have e := sl_eq
  unfold τ__families_without
  walk_at "dl"
  refine ⟨by omega, ?_⟩
  rw [Int.toNat_natCast]
  refine forL_rng 0 n (fun k ρ => ∃ a b c, ρ = [some (.dat (nI n)), some (.own ((List.range k).map fun j => nI (famW j (n - (j + 1))))), a, b, c]) ⟨_, _, _, rfl⟩ (fun k hk ρ kk ⟨a, b, c, e1⟩ hkk => ?_) fun ρ ⟨a, b, c, e1⟩ => ?_
  · subst e1
    rw [Int.zero_add]
    have h2 := pow20 (n := k) (by omega)
    walk_at "dl"
    rw [one_shl, one_shl, pow_m1]
    refine ⟨cshl1 (by omega), cshl1 (by omega), ?_⟩
    refine ⟨by omega, ?_⟩
    rw [show ((n : Int) - ((k : Int) + 1)).toNat = n - (k + 1) by omega]
    refine forL_rng _ (n - (k + 1)) (fun t ρ => ∃ a, ρ = [some (.dat (nI n)), some (.own ((List.range k).map fun j => nI (famW j (n - (j + 1))))), some (.dat (nI k)), some (.dat (nI (famW k t))), a]) ⟨_, rfl⟩ (fun t ht ρ kk ⟨a, e1⟩ hk2 => ?_) fun ρ ⟨a, e1⟩ => ?_
    · subst e1
      rw [show (k : Int) + 1 + (t : Int) = ((k + 1 + t : Nat) : Int) by omega]
      have h3 := pow20 (n := k + 1 + t) (by omega)
      walk_at "dl"
      rw [one_shl, shl_nat, or_nat]
      exact ⟨cshl1 (by omega), cshl_nat (famW_lt k t _ rfl) (by omega), hk2 _ ⟨_, by rw [famW_succ]⟩⟩
    · subst e1
      walk_at "dl"
      refine ⟨by rw [List.length_map, List.length_range]; omega, hkk _ ?_⟩
      rw [List.range_succ, List.map_append]
      exact ⟨_, _, _, rfl⟩
  · subst e1
    walk_at "dl"
    unfold famAll at q
    rw [List.map_map] at q
    exact q
theorem fam_at {n k : Nat} (h : k < n) : atI ((famAll n).map nI) (k : Int) = some (nI (famW k (n - (k + 1)))) := by
  rw [DL.atI_nat, List.getElem?_map, famAll_get h]
  rfl
theorem fam_len (n : Nat) : ((famAll n).map nI).length = n := by
  unfold famAll
  rw [List.length_map, List.length_map, List.length_range]
theorem sem__one_more (ss : List S) (x : Xn) (Q : S → Prop) (h : sp__one_more ss x Q) : τ__one_more x { nx := fun _ => Q (.dat .none), rt := Q } (DL.envOf ss 4) := by
  obtain ⟨n, F, ⟨hn, hF⟩, rfl, q⟩ := h
  unfold τ__one_more
  walk_at "dl"
  rw [fam_len]
  refine ⟨by omega, ?_⟩
  rw [Int.toNat_natCast]
  refine forL_rng 0 n (fun k ρ => ∃ a, ρ = [some (.dat (.list ((famAll n).map nI))), some (.dat (nI F)), some (.dat (nI (oneMore n F k))), a]) ⟨_, rfl⟩ (fun k hk ρ kk ⟨a, e1⟩ hkk => ?_) fun ρ ⟨a, e1⟩ => ?_
  · subst e1
    rw [Int.zero_add]
    have h2 := pow20 (n := k) (by omega)
    have h3 := pow20 hn
    walk_at "dl"
    rw [fam_at hk]
    walk_at "dl"
    rw [one_shl, and_nat, shl_nat, or_nat]
    exact ⟨cshl1 (by omega), cshl_nat (Nat.and_lt_two_pow _ (famW_lt k _ n (by omega))) (by omega), hkk _ ⟨_, rfl⟩⟩
  · subst e1
    walk_at "dl"
    exact q
theorem sem__within (ss : List S) (x : Xn) (Q : S → Prop) (h : sp__within ss x Q) : τ__within x { nx := fun _ => Q (.dat .none), rt := Q } (DL.envOf ss 3) := by
  obtain ⟨n, F, ⟨hn, hF⟩, rfl, q⟩ := h
  unfold τ__within
  walk_at "dl"
  rw [fam_len]
  refine ⟨by omega, ?_⟩
  rw [Int.toNat_natCast]
  refine forL_rng 0 n (fun k ρ => ∃ a, ρ = [some (.dat (.list ((famAll n).map nI))), some (.dat (nI (within n F k))), a]) ⟨_, rfl⟩ (fun k hk ρ kk ⟨a, e1⟩ hkk => ?_) fun ρ ⟨a, e1⟩ => ?_
  · subst e1
    rw [Int.zero_add]
    have h2 := pow20 (n := k) (by omega)
    walk_at "dl"
    rw [fam_at hk]
    walk_at "dl"
    rw [one_shl, shr_nat, and_nat, or_nat]
    exact ⟨cshl1 (by omega), Int.natCast_nonneg _, hkk _ ⟨_, rfl⟩⟩
  · subst e1
    walk_at "dl"
    exact q
theorem low_xor {F m : Nat} (h0 : F ≠ 0) (h : F - (F &&& (F - 1)) = 2 ^ m) : F ^^^ 2 ^ m = F &&& (F - 1) := by
  obtain ⟨k, h1, h2, h3, h4⟩ := low F h0
  have e : k = m := by
    rw [h] at h3
    exact Nat.pow_right_inj (by omega : 1 < 2) |>.mp h3.symm
  subst e
  refine Nat.eq_of_testBit_eq fun i => ?_
  rw [h4, Nat.testBit_xor, Nat.testBit_two_pow]
  by_cases q : k = i
  · subst q; simp [h1]
  · have q' : ¬ i = k := fun z => q z.symm
    simp [q, q']
theorem sem__members (ss : List S) (x : Xn) (Q : S → Prop) (h : sp__members ss x Q) : τ__members x { nx := fun _ => Q (.dat .none), rt := Q } (DL.envOf ss 3) := by
  obtain ⟨n, F, ⟨hn, hF, hl⟩, rfl, q⟩ := h
  have e := sl_eq
  unfold τ__members
  walk_at "dl"
  refine ⟨fun m ρ => ∃ (G : Nat) (done : List (List Nat)) (a : Option S), ρ = [some (.dat (nI G)), some (.own (done.map tup)), a] ∧ G < 2 ^ (2 ^ n) ∧ done ++ rowsOf n G = rowsOf n F ∧ m = (bitsOf (2 ^ n) G).length, ⟨_, F, [], _, rfl, hF, rfl, rfl⟩, ?_⟩
  rintro m ρ ⟨G, done, a, rfl, hG, hr, hm⟩
  walk_at "dl"
  by_cases h0 : G = 0
  · subst h0
    have : rowsOf n 0 = [] := by unfold rowsOf; rw [bits_zero]; rfl
    rw [this, List.append_nil] at hr
    rw [hr]
    exact q
  · have hz : ((G : Int) != 0) = true := by simp; exact h0
    rw [hz]
    obtain ⟨k, h1, h2, h3⟩ := bits_step h0 hG
    have hd : done.length + (bitsOf (2 ^ n) G).length ≤ 2000 := by
      have := congrArg List.length hr
      rw [List.length_append] at this
      unfold rowsOf at this
      rw [List.length_map, List.length_map] at this
      omega
    rw [h2, List.length_cons] at hd
    rw [h2, List.length_cons] at hm
    walk_at "dl"
    rw [List.length_map, if_neg (by omega), neg_and G h0, h1, bits_pow, xor_nat, low_xor h0 h1]
    have h4 : bitsOf n k :: rowsOf n (G &&& (G - 1)) = rowsOf n G := by unfold rowsOf; rw [h2]; rfl
    refine ⟨k, n, ⟨by have := pow20 hn; have := @Nat.lt_two_pow_self n; omega, h3⟩, by rw [show ((k + 1 : Nat) : Int) - 1 = (k : Int) by omega], ?_⟩
    walk_at "dl"
    refine ⟨by omega, _, (by rw [hm]; exact Nat.lt_succ_self _), G &&& (G - 1), done ++ [bitsOf n k], some (.dat (nI (2 ^ k))), ?_, Nat.lt_of_le_of_lt Nat.and_le_left hG, ?_, rfl⟩
    · rw [List.map_append]; rfl
    · rw [List.append_assoc, ← hr, ← h4]; rfl
/-! the program's law -/
theorem maxOf_ge (x : Int) (xs : List Int) : (∀ y ∈ x :: xs, y ≤ PySem.W.maxOf x xs) ∧ PySem.W.maxOf x xs ∈ x :: xs := by
  unfold PySem.W.maxOf
  induction xs generalizing x with
  | nil => simp
  | cons z zs ih =>
    rw [List.foldl_cons]
    generalize hy : (if PySem.W.DatumOrd.lt x z = true then z else x) = y
    have hxy : x ≤ y ∧ z ≤ y ∧ (y = x ∨ y = z) := by
      rw [← hy]
      rw [show PySem.W.DatumOrd.lt x z = decide (x < z) from rfl]
      by_cases hc : x < z
      · rw [if_pos (decide_eq_true hc)]; exact ⟨by omega, by omega, .inr rfl⟩
      · rw [if_neg (by simpa using hc)]; exact ⟨by omega, by omega, .inl rfl⟩
    obtain ⟨h1, h2⟩ := ih y
    have h3 := h1 y List.mem_cons_self
    refine ⟨fun w hw => ?_, ?_⟩
    · rcases List.mem_cons.mp hw with rfl | hw
      · omega
      · rcases List.mem_cons.mp hw with rfl | hw
        · omega
        · exact h1 w (List.mem_cons_of_mem _ hw)
    · rcases List.mem_cons.mp h2 with e | e
      · rw [e]
        rcases hxy.2.2 with r | r <;> simp [r]
      · exact List.mem_cons_of_mem _ (List.mem_cons_of_mem _ e)
theorem atI_last {α : Type} (xs : List α) (b : α) : atI (xs ++ [b]) (-1) = some b := by
  unfold atI ixN
  rw [List.length_append, List.length_singleton, if_neg (by omega), if_pos (by omega), Option.bind_some, show (-1 + ((xs.length + 1 : Nat) : Int)).toNat = xs.length by omega]
  simp
theorem up_len {l : List Nat} {n : Nat} (h : l.Pairwise (· < ·)) (hb : ∀ x ∈ l, x < n) : l.length ≤ n := by
  have := nodup_le (up_nodup h) (m := List.range n) fun a ha => List.mem_range.mpr (hb a ha)
  rwa [List.length_range] at this
def lasts (sets : List (List Nat)) : List Int := sets.filterMap fun s => s.getLast?.map fun m => ((m + 1 : Nat) : Int)
def sizeI : List Int → Int
  | [] => 0
  | x :: xs => PySem.W.maxOf x xs
theorem size_ok {sets : List (List Nat)} (ok : SetsOk 20 sets) : ∃ n : Nat, sizeI (lasts sets) = n ∧ n ≤ 20 ∧ SetsOk n sets := by
  have mem : ∀ y, y ∈ lasts sets → ∃ m : Nat, y = m ∧ m ≤ 20 := fun y hy => by
    obtain ⟨s, hs, h⟩ := List.mem_filterMap.mp hy
    cases hl : s.getLast? with
    | none => rw [hl] at h; cases h
    | some m =>
      rw [hl] at h
      have h' : ((m + 1 : Nat) : Int) = y := Option.some.inj h
      exact ⟨m + 1, h'.symm, ok.lt s hs m (List.mem_of_getLast? hl)⟩
  have big : ∀ s ∈ sets, ∀ x ∈ s, ∃ y ∈ lasts sets, (x : Int) < y := fun s hs x hx => by
    rcases List.eq_nil_or_concat s with rfl | ⟨l, b, rfl⟩
    · cases hx
    · have hu := ok.up _ hs
      refine ⟨((b + 1 : Nat) : Int), List.mem_filterMap.mpr ⟨_, hs, by simp⟩, ?_⟩
      have : x ≤ b := by
        rw [List.concat_eq_append] at hx hu
        rcases List.mem_append.mp hx with h | h
        · exact Nat.le_of_lt ((List.pairwise_append.mp hu).2.2 x h b (by simp))
        · have : x = b := by simpa using h
          omega
      omega
  cases e : lasts sets with
  | nil => 
    refine ⟨0, rfl, by omega, ok.up, fun s hs x hx => ?_⟩
    obtain ⟨y, hy, _⟩ := big s hs x hx
    rw [e] at hy; cases hy
  | cons z zs =>
    obtain ⟨h1, h2⟩ := maxOf_ge z zs
    obtain ⟨m, h3, h4⟩ := mem _ (by rw [e]; exact h2)
    refine ⟨m, h3, h4, ok.up, fun s hs x hx => ?_⟩
    obtain ⟨y, hy, hl⟩ := big s hs x hx
    rw [e] at hy
    have := h1 y hy
    omega
theorem missing0_snoc (n : Nat) (pre : List (List Nat)) (s : List Nat) : missing0 n (pre ++ [s]) = missing0 n pre ||| 2 ^ ((2 ^ n - 1) ^^^ maskOf s) := by
  unfold missing0
  rw [List.foldl_append]
  rfl
theorem minHit_nil {sets : List (List Nat)} {l : List Nat} (h0 : MinHit sets []) (h : MinHit sets l) : l = [] := by
  cases l with
  | nil => rfl
  | cons a r =>
    refine absurd (fun s hs => ?_) (h.2.2 a List.mem_cons_self)
    obtain ⟨n, _, h2⟩ := h0.2.1 s hs
    cases h2
theorem sem_least_hitting (ss : List S) (x : Xn) (Q : S → Prop) (h : sp_least_hitting ss x Q) : τ_least_hitting x { nx := fun _ => Q (.dat .none), rt := Q } (DL.envOf ss 8) := by
  obtain ⟨sets, C, ⟨ok, hs, hC, hm⟩, rfl, q⟩ := h
  have e := sl_eq
  unfold τ_least_hitting
  walk_at "dl"
  refine lcL_fmA (fun s : List Nat => s.getLast?.map fun m => nI (m + 1)) sets [] (fun s hs' acc k ha hk => ?_) (by rw [List.length_nil]; omega) ⟨lasts sets, ?_, ?_⟩
  · rcases List.eq_nil_or_concat s with rfl | ⟨l, b, rfl⟩
    · unfold tup
      walk_at "dl"
      simpa using hk
    · rw [List.concat_eq_append] at hk ⊢
      unfold tup
      rw [List.map_append, List.map_cons, List.map_nil]
      walk_at "dl"
      rw [atI_last]
      walk_at "dl"
      rw [show (l ++ [b]).getLast? = some b by simp] at hk
      rw [if_pos (by simp)]
      exact ⟨ha, hk⟩
  · rw [List.nil_append]
    congr 1
    unfold lasts
    rw [List.map_filterMap]
    congr 1
    funext s
    cases s.getLast? <;> rfl
  · show sp__families_without [S.dat (.int (sizeI (lasts sets)))] _ _
    obtain ⟨n, hn, h20, ok'⟩ := size_ok ok
    rw [hn]
    refine ⟨n, h20, rfl, ?_⟩
    walk_at "dl"
    have hz : ∀ {α : Type} (f : Int → α), f (sizeI (lasts sets)) = f n := fun f => by rw [hn]
    change CShl 1 (sizeI (lasts sets)) ∧ forL _ _ _ _ _ [_, some (.dat (.int (sizeI (lasts sets)))), _, some (.dat (.int (1 * 2 ^ (sizeI (lasts sets)).toNat - 1))), _, _, _, _]
    rw [hn, one_shl, pow_m1]
    refine ⟨cshl1 (by omega), ?_⟩
    have h2n := pow20 h20
    refine forL_pre tup sets (fun pre ρ => ∃ a, ρ = [some (.dat (.tuple (sets.map tup))), some (.dat (nI n)), some (.own ((famAll n).map nI)), some (.dat (nI (2 ^ n - 1))), some (.dat (nI (missing0 n pre))), a, none, none]) ⟨_, rfl⟩ (fun pre s post es ρ kk ⟨a, e1⟩ hk => ?_) fun ρ ⟨a, e1⟩ => ?_
    · subst e1
      have hs' : s ∈ sets := by rw [es]; simp
      have hup := ok'.up s hs'
      have hlt := ok'.lt s hs'
      walk_at "dl"
      refine ⟨s, ⟨by have := up_len hup hlt; omega, fun m hm' => by have := hlt m hm'; omega⟩, rfl, ?_⟩
      walk_at "dl"
      have hc := compl_lt (up_nodup hup) hlt
      rw [xor_nat, one_shl, or_nat]
      exact ⟨cshl1 (by omega), hk _ ⟨_, by rw [missing0_snoc]⟩⟩
    · subst e1
      walk_at "dl"
      refine ⟨n, missing0 n sets, ⟨h20, missing0_lt ok'⟩, rfl, rfl, ?_⟩
      walk_at "dl"
      rw [one_shl]
      have hp : CShl 1 ((2 ^ n : Nat) : Int) := cshl1 (by omega)
      refine ⟨cshl1 (by omega), hp, ?_⟩
      rw [one_shl, pow_m1, xor_nat]
      refine ⟨n, hitting n sets, ⟨h20, hitting_lt ok'⟩, rfl, rfl, ?_⟩
      walk_at "dl"
      change sp__members [S.dat (.int (Builtin.bitXor ((hitting n sets : Nat) : Int) (Builtin.bitAnd ((hitting n sets : Nat) : Int) _)))] _ _
      rw [and_nat, xor_nat]
      have hrow : ∀ l, l ∈ rowsOf n (least n sets) ↔ MinHit sets l := rows_least ok'
      have hlen : (rowsOf n (least n sets)).length ≤ 2000 := Nat.le_trans (nodup_le (rows_nodup n _) fun l hl => hm l ((hrow l).mp hl)) hC
      refine ⟨n, least n sets, ⟨h20, least_lt ok', by unfold rowsOf at hlen; rwa [List.length_map] at hlen⟩, rfl, ?_⟩
      walk_at "dl"
      refine bSorted_tups (L := rowsOf n (least n sets)) rfl (fun h2 hn' => ?_) ?_
      · have h0 := (hrow []).mp hn'
        have hall : ∀ l ∈ rowsOf n (least n sets), l = [] := fun l hl => minHit_nil h0 ((hrow l).mp hl)
        have := nodup_le (rows_nodup n (least n sets)) (m := [[]]) fun l hl => by rw [hall l hl]; exact List.mem_cons_self
        simp at this
        omega
      · walk_at "dl"
        exact q _ (rows_nodup _ _) hrow
/-! the law's own defs -/
theorem sem__law_pick (ss : List S) (x : Xn) (Q : S → Prop) (h : sp__law_pick ss x Q) : τ__law_pick x { nx := fun _ => Q (.dat .none), rt := Q } (DL.envOf ss 2) := by
  obtain ⟨s, ds, ⟨h0, h1⟩, rfl, hs, q⟩ := h
  unfold τ__law_pick
  rcases hs with rfl | rfl
  · walk_at "dl"
    refine ⟨ds.length, ⟨h0, h1⟩, rfl, fun r hr => ?_⟩
    walk_at "dl"
    rw [DL.atI_nat, List.getElem?_eq_getElem hr]
    walk_at "dl"
    exact q _ (List.getElem_mem hr)
  · walk_at "dl"
    refine ⟨ds.length, ⟨h0, h1⟩, rfl, fun r hr => ?_⟩
    walk_at "dl"
    rw [DL.atI_nat, List.getElem?_eq_getElem hr]
    walk_at "dl"
    exact q _ (List.getElem_mem hr)
theorem subs_snoc (ns : List Nat) (n : Nat) : subs (ns ++ [n]) = subs ns ++ (subs ns).map (· ++ [n]) := by
  unfold subs
  rw [List.foldl_append]
  rfl
theorem subs_facts (ns : List Nat) : (subs ns).length = 2 ^ ns.length ∧ ∀ l, l ∈ subs ns ↔ l.Sublist ns := by
  refine snoc_ind (P := fun ns => (subs ns).length = 2 ^ ns.length ∧ ∀ l, l ∈ subs ns ↔ l.Sublist ns) ⟨rfl, fun l => by simp [subs]⟩ (fun ns n ih => ?_) ns
  · rw [subs_snoc]
    refine ⟨by rw [List.length_append, List.length_map, ih.1, List.length_append, List.length_singleton, Nat.pow_succ]; omega, fun l => ?_⟩
    rw [List.mem_append, List.mem_map, List.sublist_append_iff]
    constructor
    · rintro (h | ⟨a, h, rfl⟩)
      · exact ⟨l, [], by simp, (ih.2 l).mp h, List.nil_sublist _⟩
      · exact ⟨a, [n], rfl, (ih.2 a).mp h, List.Sublist.refl _⟩
    · rintro ⟨a, b, rfl, h1, h2⟩
      rcases (show b = [] ∨ b = [n] by
        cases h2 with
        | cons _ h => exact .inl (List.sublist_nil.mp h)
        | cons_cons _ h => rw [List.sublist_nil.mp h]; exact .inr rfl) with rfl | rfl
      · exact .inl ((ih.2 _).mpr (by simpa using h1))
      · exact .inr ⟨a, (ih.2 a).mpr h1, rfl⟩
theorem tup_snoc (l : List Nat) (n : Nat) : PyData.tuple (l.map nI ++ [nI n]) = tup (l ++ [n]) := by
  unfold tup
  rw [List.map_append]
  rfl
theorem sem__law_subsets (ss : List S) (x : Xn) (Q : S → Prop) (h : sp__law_subsets ss x Q) : τ__law_subsets x { nx := fun _ => Q (.dat .none), rt := Q } (DL.envOf ss 4) := by
  obtain ⟨ns, h8, rfl, q⟩ := h
  have e := sl_eq
  unfold τ__law_subsets
  walk_at "dl"
  refine ⟨by omega, ?_⟩
  refine forL_pre nI ns (fun pre ρ => ∃ a b, ρ = [some (.dat (.list (ns.map nI))), some (.own ((subs pre).map tup)), a, b]) ⟨_, _, rfl⟩ (fun pre n post es ρ kk ⟨a, b, e1⟩ hk => ?_) fun ρ ⟨a, b, e1⟩ => ?_
  · subst e1
    have hp : pre.length < 8 := by
      have := congrArg List.length es
      rw [List.length_append, List.length_cons] at this
      omega
    have hsz : (subs pre).length ≤ 128 := by
      rw [(subs_facts pre).1]
      exact Nat.le_trans (Nat.pow_le_pow_right (n := 2) (by omega) (by omega : pre.length ≤ 7)) (by decide)
    walk_at "dl"
    refine lcL_mapA (fun l => tup (l ++ [n])) (fun l hl acc k ha hk2 => ?_) (by omega) ?_
    · have := ((subs_facts pre).2 l).mp hl |>.length_le
      unfold tup
      walk_at "dl"
      rw [tup_snoc]
      rw [List.length_map]
      exact ⟨by omega, by omega, ha, hk2⟩
    · rw [List.length_map, List.length_map]
      refine ⟨by omega, hk _ ?_⟩
      rw [subs_snoc, List.map_append, List.map_map]
      exact ⟨_, _, rfl⟩
  · subst e1
    walk_at "dl"
    exact q
theorem any_nI (l : List Nat) (n : Nat) : (l.map nI).any (fun z => PyData.eqv z (.int n)) = decide (n ∈ l) := by
  rw [List.any_map, Bool.eq_iff_iff, List.any_eq_true, decide_eq_true_eq]
  constructor
  · rintro ⟨m, h1, h2⟩
    have h3 : PyData.eqv (nI m) (nI n) = true := h2
    rw [eqv_int, decide_eq_true_eq] at h3
    have : m = n := by omega
    exact this ▸ h1
  · intro h
    refine ⟨n, h, ?_⟩
    show PyData.eqv (nI n) (nI n) = true
    rw [eqv_int]
    simp
theorem sh_nIs (l : List Nat) : shp (.list (l.map nI)) = true := (flat_list (flat_nI l)).sh (by omega)
theorem sh_tups (l : List (List Nat)) : shp (.list (l.map tup)) = true := (flat_list (flat_tups l)).sh (by omega)
theorem flt_nil {α : Type} (p : α → Bool) (l : List α) : (l.filter p).isEmpty = l.all fun a => !p a := by
  induction l with
  | nil => rfl
  | cons a l ih =>
    rw [List.filter_cons, List.all_cons]
    cases h : p a
    · rw [if_neg (by simp), ih]; simp
    · rw [if_pos rfl]; simp
theorem hits_filter (sets : List (List Nat)) (l : List Nat) : ((sets.filter fun t => (t.filter fun n => decide (n ∈ l)).isEmpty).map tup).isEmpty = hitsB sets l := by
  unfold hitsB
  rw [List.isEmpty_map, flt_nil]
  congr 1
  funext s
  rw [flt_nil, Bool.eq_iff_iff, List.any_eq_true]
  simp
theorem sem__law_hits (ss : List S) (x : Xn) (Q : S → Prop) (h : sp__law_hits ss x Q) : τ__law_hits x { nx := fun _ => Q (.dat .none), rt := Q } (DL.envOf ss 4) := by
  obtain ⟨s, l, sets, ⟨h1, h2, h3⟩, rfl, hs, q⟩ := h
  have e := sl_eq
  have main : ∀ s : S, isSeq s (l.map nI) → τ__law_hits x { nx := fun _ => Q (.dat .none), rt := Q } [some s, some (.dat (.tuple (sets.map tup))), none, none] := by
    intro s hs
    unfold τ__law_hits
    walk_at "dl"
    refine lcL_filtA (fun t : List Nat => (t.filter fun n => decide (n ∈ l)).isEmpty) tup (fun t ht acc k ha hk hk2 => ?_) (by omega) ?_
    · walk_at "dl"
      unfold tup
      walk_at "dl"
      refine lcL_filtA (fun n : Nat => decide (n ∈ l)) nI (fun n hn acc k ha hk hk2 => ?_) (by have := h3 t ht; omega) ?_
      · walk_at "dl"
        have fin : (bIn false (.dat (nI n)) s fun s => match s with | .dat (.bool b) => if b = true then acc.length < sizeLine ∧ k (acc ++ [nI n]) else k acc | _ => False) := by
          have hq : if decide (n ∈ l) = true then acc.length < sizeLine ∧ k (acc ++ [nI n]) else k acc := by
            cases r : decide (n ∈ l)
            · rw [if_neg (by decide)]; exact hk2 r
            · rw [if_pos rfl]; exact ⟨ha, hk r⟩
          rcases hs with rfl | rfl
          · unfold bIn
            walk_at "dl"
            rw [any_nI]
            exact ⟨sh_nIs l, hq⟩
          · unfold bIn
            walk_at "dl"
            rw [any_nI]
            exact ⟨sh_nIs l, hq⟩
        rcases hs with rfl | rfl
        · exact fin
        · exact fin
      · refine ⟨sh_nIs _, ?_⟩
        rw [List.isEmpty_map]
        cases r : (t.filter fun n => decide (n ∈ l)).isEmpty
        · rw [if_neg (by decide)]; exact hk2 r
        · rw [if_pos rfl]; exact ⟨ha, hk r⟩
    · refine ⟨sh_tups _, ?_⟩
      rw [hits_filter]
      exact q
  exact main s hs
theorem sem__law_is_least (ss : List S) (x : Xn) (Q : S → Prop) (h : sp__law_is_least ss x Q) : τ__law_is_least x { nx := fun _ => Q (.dat .none), rt := Q } (DL.envOf ss 4) := by
  obtain ⟨l, sets, ⟨h1, h2, h3⟩, rfl, q⟩ := h
  have e := sl_eq
  unfold τ__law_is_least
  walk_at "dl"
  refine ⟨_, l, sets, ⟨h1, h2, h3⟩, rfl, .inr rfl, ?_⟩
  unfold minB at q
  walk_at "dl"
  by_cases hh : hitsB sets l = true
  · rw [if_pos hh]
    rw [hh, Bool.true_and] at q
    unfold tup
    walk_at "dl"
    refine lcL_filtA (fun n : Nat => hitsB sets (l.filter fun m => decide (m ≠ n))) nI (fun n hn acc k ha hk hk2 => ?_) (by omega) ?_
    · walk_at "dl"
      refine lcL_filtA (fun m : Nat => decide (m ≠ n)) nI (fun m hm acc2 k2 ha2 hk3 hk4 => ?_) (by omega) ?_
      · walk_at "dl"
        by_cases hmn : m = n
        · rw [if_neg (by simp; omega)]; exact hk4 (by simpa using hmn)
        · rw [if_pos (by simp; omega)]; exact ⟨ha2, hk3 (by simpa using hmn)⟩
      · walk_at "dl"
        refine ⟨_, l.filter fun m => decide (m ≠ n), sets, ⟨Nat.le_trans (List.length_filter_le _ _) h1, h2, h3⟩, rfl, .inl rfl, ?_⟩
        walk_at "dl"
        cases r : hitsB sets (l.filter fun m => decide (m ≠ n))
        · rw [if_neg (by decide)]; exact hk2 r
        · rw [if_pos rfl]; exact ⟨ha, hk r⟩
    · refine ⟨sh_nIs _, ?_⟩
      rw [List.isEmpty_map, flt_nil]
      exact q
  · rw [if_neg hh]
    have hf : hitsB sets l = false := by simpa using hh
    rw [hf, Bool.false_and] at q
    exact q
theorem hitsB_iff (sets : List (List Nat)) (l : List Nat) : hitsB sets l = true ↔ Hits sets l := by
  unfold hitsB Hits
  rw [List.all_eq_true]
  refine forall_congr' fun s => forall_congr' fun _ => ?_
  rw [List.any_eq_true]
  simp
theorem minB_iff {sets : List (List Nat)} {l : List Nat} (h : l.Pairwise (· < ·)) : minB sets l = true ↔ MinHit sets l := by
  unfold minB MinHit
  rw [Bool.and_eq_true, hitsB_iff, List.all_eq_true]
  constructor
  · rintro ⟨h1, h2⟩
    refine ⟨h, h1, fun n hn hc => ?_⟩
    have := h2 n hn
    rw [(hitsB_iff _ _).mpr hc] at this
    cases this
  · rintro ⟨_, h1, h2⟩
    refine ⟨h1, fun n hn => ?_⟩
    cases r : hitsB sets (l.filter fun m => decide (m ≠ n)) with
    | false => rfl
    | true => exact absurd ((hitsB_iff _ _).mp r) (h2 n hn)
theorem subs_nodup {ns : List Nat} (h : ns.Nodup) : (subs ns).Nodup := by
  revert h
  refine snoc_ind (P := fun ns => ns.Nodup → (subs ns).Nodup) (fun _ => by simp [subs]) (fun ns n ih h => ?_) ns
  have h1 := List.nodup_append.mp h
  rw [subs_snoc]
  refine List.nodup_append.mpr ⟨ih h1.1, nodup_map (fun a _ b _ e => List.append_cancel_right e) (ih h1.1), fun a ha b hb e => ?_⟩
  obtain ⟨c, _, rfl⟩ := List.mem_map.mp hb
  have := ((subs_facts ns).2 a).mp ha
  rw [e] at this
  exact h1.2.2 n (this.subset (by simp)) n (by simp) rfl
theorem minB_nil {sets : List (List Nat)} {l : List Nat} (h0 : minB sets [] = true) (h : minB sets l = true) : l = [] := by
  cases l with
  | nil => rfl
  | cons a r =>
    unfold minB at h h0
    rw [Bool.and_eq_true, List.all_eq_true] at h h0
    have h1 := h.2 a List.mem_cons_self
    have h2 : hitsB sets ((a :: r).filter fun m => decide (m ≠ a)) = true := by
      rw [hitsB_iff]
      intro s hs
      obtain ⟨n, _, hn⟩ := (hitsB_iff sets []).mp h0.1 s hs
      cases hn
    rw [h2] at h1
    cases h1
theorem sem__law_hitting (ss : List S) (x : Xn) (Q : S → Prop) (h : sp__law_hitting ss x Q) : τ__law_hitting x { nx := fun _ => Q (.dat .none), rt := Q } (DL.envOf ss 3) := by
  obtain ⟨ns, sets, ⟨h8, hnd, h2, h3⟩, rfl, q⟩ := h
  have e := sl_eq
  have hsz : (subs ns).length ≤ 256 := by
    rw [(subs_facts ns).1]
    exact Nat.le_trans (Nat.pow_le_pow_right (n := 2) (by omega) h8) (by decide)
  unfold τ__law_hitting
  walk_at "dl"
  refine ⟨ns, h8, rfl, ?_⟩
  walk_at "dl"
  refine lcL_filtA (minB sets) tup (fun l hl acc k ha hk hk2 => ?_) (by omega) ?_
  · have := (((subs_facts ns).2 l).mp hl).length_le
    walk_at "dl"
    refine ⟨l, sets, ⟨by omega, h2, h3⟩, rfl, ?_⟩
    walk_at "dl"
    cases r : minB sets l
    · rw [if_neg (by decide)]; exact hk2 r
    · rw [if_pos rfl]; exact ⟨ha, hk r⟩
  · refine bSorted_tups (L := (subs ns).filter (minB sets)) rfl (fun hlen hn => ?_) ?_
    · have h0 := (List.mem_filter.mp hn).2
      have := nodup_le (l := (subs ns).filter (minB sets)) (m := [[]]) ((subs_nodup hnd).filter _) fun l hl => by rw [minB_nil h0 (List.mem_filter.mp hl).2]; exact List.mem_cons_self
      simp only [List.length_singleton] at this
      omega
    · walk_at "dl"
      exact q
theorem prods_snoc (rows : List (List Nat)) (r : List Nat) : prods (rows ++ [r]) = (prods rows).flatMap fun lot => r.map fun n => lot ++ [n] := by
  unfold prods
  rw [List.foldl_append]
  rfl
theorem prods_len (rows : List (List Nat)) : ∀ l ∈ prods rows, l.length = rows.length := by
  refine snoc_ind (P := fun rows => ∀ l ∈ prods rows, l.length = rows.length) (fun l hl => ?_) (fun rows r ih l hl => ?_) rows
  · have : l = [] := by simpa [prods] using hl
    rw [this]; rfl
  · rw [prods_snoc, List.mem_flatMap] at hl
    obtain ⟨lot, h1, h2⟩ := hl
    obtain ⟨n, _, rfl⟩ := List.mem_map.mp h2
    rw [List.length_append, List.length_append, ih lot h1]
    rfl
theorem flat_len {α β : Type} (f : α → List β) {k : Nat} : ∀ l : List α, (∀ a ∈ l, (f a).length ≤ k) → (l.flatMap f).length ≤ l.length * k
  | [], _ => by simp
  | a :: l, h => by
    rw [List.flatMap_cons, List.length_append, List.length_cons, Nat.succ_mul]
    have h1 := h a List.mem_cons_self
    have h2 := flat_len f l fun b hb => h b (List.mem_cons_of_mem _ hb)
    omega
theorem prods_size {rows : List (List Nat)} (h : ∀ r ∈ rows, r.length ≤ 3) : (prods rows).length ≤ 3 ^ rows.length := by
  revert h
  refine snoc_ind (P := fun rows => (∀ r ∈ rows, r.length ≤ 3) → (prods rows).length ≤ 3 ^ rows.length) (fun _ => by simp [prods]) (fun rows r ih h => ?_) rows
  rw [prods_snoc, List.length_append, List.length_singleton, Nat.pow_succ]
  have h1 := ih fun s hs => h s (by simp [hs])
  have h2 := flat_len (fun lot : List Nat => r.map fun n => lot ++ [n]) (k := 3) (prods rows) fun a _ => by rw [List.length_map]; exact h r (by simp)
  omega
theorem sem__law_products (ss : List S) (x : Xn) (Q : S → Prop) (h : sp__law_products ss x Q) : τ__law_products x { nx := fun _ => Q (.dat .none), rt := Q } (DL.envOf ss 6) := by
  obtain ⟨rows, ⟨h6, h3⟩, rfl, q⟩ := h
  have e := sl_eq
  have size : ∀ pre post, rows = pre ++ post → (prods pre).length ≤ 729 := fun pre post es => by
    have h1 := prods_size (rows := pre) fun r hr => h3 r (by rw [es]; simp [hr])
    have h2 := congrArg List.length es
    rw [List.length_append] at h2
    exact Nat.le_trans h1 (Nat.le_trans (Nat.pow_le_pow_right (n := 3) (by omega) (by omega : pre.length ≤ 6)) (by decide))
  unfold τ__law_products
  walk_at "dl"
  refine ⟨by omega, ?_⟩
  refine forL_pre tup rows (fun pre ρ => ∃ a b c, ρ = [some (.dat (.list (rows.map tup))), some (.own ((prods pre).map tup)), a, b, c, none]) ⟨_, _, _, rfl⟩ (fun pre r post es ρ kk ⟨a, b, c, e1⟩ hk => ?_) fun ρ ⟨a, b, c, e1⟩ => ?_
  · subst e1
    have hr3 : r.length ≤ 3 := h3 r (by rw [es]; simp)
    have hsz := size pre _ es
    walk_at "dl"
    refine forL_pre tup (prods pre) (fun done ρ => ∃ c, ρ = [some (.dat (.list (rows.map tup))), some (.dat (.list ((prods pre).map tup))), some (.dat (tup r)), some (.own ((done.flatMap fun lot => r.map fun n => lot ++ [n]).map tup)), c, none]) ⟨_, rfl⟩ (fun done l post2 es2 ρ kk2 ⟨c, e1⟩ hk2 => ?_) fun ρ ⟨c, e1⟩ => ?_
    · subst e1
      have hl : l.length ≤ 6 := by
        have h1 := prods_len pre l (by rw [es2]; simp)
        have h2 := congrArg List.length es
        rw [List.length_append] at h2
        omega
      have hdone : (done.flatMap fun lot : List Nat => r.map fun n => lot ++ [n]).length ≤ done.length * 3 := flat_len _ _ fun a _ => by rw [List.length_map]; exact hr3
      have hd2 : done.length ≤ 729 := by
        have h2 := congrArg List.length es2
        rw [List.length_append] at h2
        omega
      walk_at "dl"
      unfold tup
      walk_at "dl"
      refine lcL_mapA (fun n => tup (l ++ [n])) (fun n hn acc k ha hk3 => ?_) (by omega) ?_
      · walk_at "dl"
        rw [tup_snoc, List.length_map]
        exact ⟨by omega, by omega, ha, hk3⟩
      · rw [List.length_map, List.length_map]
        refine ⟨by omega, hk2 _ ?_⟩
        rw [List.flatMap_append, List.flatMap_cons, List.flatMap_nil, List.append_nil, List.map_append, List.map_map]
        exact ⟨_, rfl⟩
    · subst e1
      walk_at "dl"
      refine hk _ ?_
      rw [prods_snoc]
      exact ⟨_, _, _, rfl⟩
  · subst e1
    have hsz := size rows [] (by simp)
    walk_at "dl"
    refine lcL_mapA (fun l => tup (sortN l)) (fun l hl acc k ha hk => ?_) (by omega) ?_
    · unfold tup
      walk_at "dl"
      refine bSorted_nIT (l := l) rfl ?_
      walk_at "dl"
      exact ⟨ha, hk⟩
    · have em : (prods rows).map (fun l => tup (sortN l)) = ((prods rows).map sortN).map tup := by rw [List.map_map]; rfl
      rw [em]
      refine bSorted_tups (L := (prods rows).map sortN) rfl (fun hlen hn => ?_) ?_
      · obtain ⟨l, h1, h2⟩ := List.mem_map.mp hn
        have h4 := prods_len rows l h1
        rw [← (sortN_perm l).length_eq, h2] at h4
        have h5 : rows = [] := List.length_eq_zero_iff.mp h4.symm
        subst h5
        simp [prods] at hlen
      · walk_at "dl"
        exact q
end Law

set_option Elab.async false
set_option linter.all false
set_option maxRecDepth 100000
set_option maxHeartbeats 4000000
namespace Law
open PySem PySem.Spec PyProof.Rows L2 DL Mb
def PlainD : Nat → D → Prop
  | 0, d => ∃ i, d = .int i
  | n + 1, d => (∃ i, d = .int i) ∨ ∃ ds, d = .tuple ds ∧ ds.length ≤ 2 ^ 20 ∧ ∀ e ∈ ds, PlainD n e
def sp_same (n : Nat) : DSp := fun ss _ Q => ∃ d, PlainD n d ∧ ss = [.dat d, .dat d] ∧ Q (.dat (.bool true))
def τ__law_drawn_sets_r1 : DTS :=
  (τApp 2 (τVar 6))
def τ__law_drawn_sets_r2 : DTS :=
  (τSeq (τIfS (τAnd (τTest (τOp bEq (τVar 4) (τC (.int 2)))) (τTest (τOp bEq (τCall sp__law_draw (τCons (τVar 0) (τCons (τC (.int 4)) τNil))) (τC (.int 0)))))
    (τAsg (τTup τNil) (γName 6))
    τNext)
    τ__law_drawn_sets_r1)
def τ__law_drawn_sets_r3 : DTS :=
  (τSeq (τIfS (τAnd (τTest (τOp bEq (τVar 4) (τC (.int 1)))) (τTest (τOp bNe (τVar 2) (τLst τNil))))
    (τSeq (τAsg (τSl (τCall sp__law_pick (τCons (τVar 0) (τCons (τVar 2) τNil))) (τPart (τC (.int 1))) τNoPart) (γName 6))
    (τAsg (τIf (τTest (τOp bNe (τVar 6) (τTup τNil))) (τVar 6) (τCB bTuple (τCons (τSl (τVar 1) τNoPart (τPart (τC (.int 1)))) τNil))) (γName 6)))
    τNext)
    τ__law_drawn_sets_r2)
def τ__law_drawn_sets : DTS :=
  (τSeq (τAsg (τLst τNil) (γName 2))
    (τSeq (τFor (τRng1 (τCons (τCall sp__law_pick (τCons (τVar 0) (τCons (τLst (τCons (τC (.int 0)) (τCons (τC (.int 1)) (τCons (τC (.int 2)) (τCons (τC (.int 3)) (τCons (τC (.int 4)) (τCons (τC (.int 5)) (τCons (τC (.int 6)) (τCons (τC (.int 9)) τNil))))))))) τNil))) τNil)) (γName 3)
    (τSeq (τAsg (τCall sp__law_draw (τCons (τVar 0) (τCons (τC (.int 8)) τNil))) (γName 4))
    (τSeq (τAsg (τCall sp__law_pick (τCons (τVar 0) (τCons (τLst (τCons (τC (.int 1)) (τCons (τC (.int 2)) (τCons (τC (.int 2)) (τCons (τC (.int 3)) (τCons (τC (.int 3)) (τCons (τC (.int 4)) τNil))))))) τNil))) (γName 5))
    (τSeq (τAsg (τCB bTuple (τCons (τCB bSorted (τCons (τSl (τCall sp__law_mixed (τCons (τVar 0) (τCons (τVar 1) τNil))) τNoPart (τPart (τVar 5))) τNil)) τNil)) (γName 6))
    (τSeq (τIfS (τAnd (τTest (τOp bEq (τVar 4) (τC (.int 0)))) (τTest (τOp bNe (τVar 2) (τLst τNil))))
    (τAsg (τCall sp__law_pick (τCons (τVar 0) (τCons (τVar 2) τNil))) (γName 6))
    τNext)
    τ__law_drawn_sets_r3)))))
    (τRet (τCB bTuple (τCons (τVar 2) τNil)))))
def τ__law_same_r1 (sp__law_same : DSp) : DTS :=
  (τRet (τAndV (τIsi "int" (τVar 0)) (τOp bEq (τVar 0) (τVar 1))))
def τ__law_same_r2 (sp__law_same : DSp) : DTS :=
  (τSeq (τIfS (τTru (τIsi "str" (τVar 1)))
    (τRet (τAndV (τIsi "str" (τVar 0)) (τOp bEq (τVar 0) (τVar 1))))
    τNext)
    (τ__law_same_r1 sp__law_same))
def τ__law_same_r3 (sp__law_same : DSp) : DTS :=
  (τSeq (τIfS (τOr (τTru (τIsi "bool" (τVar 1))) (τTru (τIsi "bool" (τVar 0))))
    (τRet (τAndV (τIsi "bool" (τVar 1)) (τAndV (τIsi "bool" (τVar 0)) (τOp bEq (τVar 0) (τVar 1)))))
    τNext)
    (τ__law_same_r2 sp__law_same))
def τ__law_same_r4 (sp__law_same : DSp) : DTS :=
  (τRet (τOp bEq (τLc (τRng1 (τCons (τCB bLen (τCons (τVar 1) τNil)) τNil)) (γName 2) (τNot (τTru (τCall sp__law_same (τCons (τOp bIx (τVar 0) (τVar 2)) (τCons (τOp bIx (τVar 1) (τVar 2)) τNil))))) (τVar 2) [2]) (τLst τNil)))
def τ__law_same_r5 (sp__law_same : DSp) : DTS :=
  (τSeq (τIfS (τOr (τTest (τOp bIsN (τVar 1) (τC .none))) (τTest (τOp bIsN (τVar 0) (τC .none))))
    (τRet (τAndV (τOp bIsN (τVar 1) (τC .none)) (τOp bIsN (τVar 0) (τC .none))))
    τNext)
    (τ__law_same_r3 sp__law_same))
def τ__law_same (sp__law_same : DSp) : DTS :=
  (τSeq (τIfS (τTru (τIsi "tuple" (τVar 1)))
    (τSeq (τIfS (τOr (τNot (τTru (τIsi "tuple" (τVar 0)))) (τTest (τOp bNe (τCB bLen (τCons (τVar 0) τNil)) (τCB bLen (τCons (τVar 1) τNil)))))
    (τRet (τC (.bool false)))
    τNext)
    (τ__law_same_r4 sp__law_same))
    τNext)
    (τ__law_same_r5 sp__law_same))
def τ_law_r1 : DTS :=
  (τRet (τAndV (τCall (sp_same 2) (τCons (τCall sp_least_hitting (τCons (τTup τNil) τNil)) (τCons (τTup (τCons (τTup τNil) τNil)) τNil))) (τCall (sp_same 2) (τCons (τCall sp_least_hitting (τCons (τOp bPlus (τCB bTuple (τCons (τVar 6) τNil)) (τTup (τCons (τTup τNil) τNil))) τNil)) (τCons (τTup τNil) τNil)))))
def τ_law_r2 : DTS :=
  (τSeq (τPar 5 6 (τCall sp__law_mixed (τCons (τVar 1) (τCons (τLstRg (τRg1 (τC (.int 20)))) τNil))) (τLst τNil))
    (τSeq (τFor (τRng1 (τCons (τIf (τTest (τOp (bI0 fun i j => .bool (decide (j < i))) (τCall sp__law_draw (τCons (τVar 1) (τCons (τC (.int 6)) τNil))) (τC (.int 0)))) (τCall sp__law_pick (τCons (τVar 1) (τCons (τLst (τCons (τC (.int 1)) (τCons (τC (.int 2)) (τCons (τC (.int 3)) (τCons (τC (.int 4)) τNil))))) τNil))) (τC (.int 6))) τNil)) (γName 7)
    (τSeq (τAsg (τCall sp__law_pick (τCons (τVar 1) (τCons (τLst (τCons (τC (.int 1)) (τCons (τC (.int 2)) (τCons (τC (.int 3)) (τCons (τC (.int 3)) τNil))))) τNil))) (γName 8))
    (τSeq (τApp 6 (τCB bTuple (τCons (τCB bSorted (τCons (τSl (τVar 5) τNoPart (τPart (τVar 8))) τNil)) τNil)))
    (τAsg (τSl (τVar 5) (τPart (τVar 8)) τNoPart) (γName 5)))))
    (τSeq (τIfS (τNot (τTru (τCall (sp_same 2) (τCons (τCall sp_least_hitting (τCons (τCB bTuple (τCons (τVar 6) τNil)) τNil)) (τCons (τCall sp__law_products (τCons (τVar 6) τNil)) τNil)))))
    (τRet (τC (.bool false)))
    τNext)
    τ_law_r1)))
def τ_law_r3 : DTS :=
  (τSeq (τAsg (τCall sp__law_drawn_sets (τCons (τVar 1) (τCons (τVar 2) τNil))) (γName 3))
    (τSeq (τAsg (τCall sp__law_hitting (τCons (τVar 2) (τCons (τVar 3) τNil))) (γName 4))
    (τSeq (τIfS (τOr (τNot (τTru (τCall (sp_same 2) (τCons (τCall sp_least_hitting (τCons (τVar 3) τNil)) (τCons (τVar 4) τNil))))) (τNot (τTru (τCall (sp_same 2) (τCons (τCall sp_least_hitting (τCons (τCB bTuple (τCons (τCall sp__law_mixed (τCons (τVar 1) (τCons (τOp bPlus (τVar 3) (τSl (τVar 3) τNoPart (τPart (τC (.int 2))))) τNil))) τNil)) τNil)) (τCons (τVar 4) τNil))))))
    (τRet (τC (.bool false)))
    τNext)
    τ_law_r2)))
def τ_law : DTS :=
  (τSeq (τAsg (τCB bSorted (τCons (τSl (τCall sp__law_mixed (τCons (τVar 1) (τCons (τLstRg (τRg1 (τC (.int 20)))) τNil))) τNoPart (τPart (τOp bPlus (τC (.int 1)) (τCall sp__law_draw (τCons (τVar 1) (τCons (τC (.int 8)) τNil)))))) τNil)) (γName 2))
    (τSeq (τIfS (τTest (τOp bEq (τCall sp__law_draw (τCons (τVar 1) (τCons (τC (.int 3)) τNil))) (τC (.int 0))))
    (τAsg (τLstRg (τRg2 (τOp (bI0 fun i j => .int (i - j)) (τC (.int 20)) (τCB bLen (τCons (τVar 2) τNil))) (τC (.int 20)))) (γName 2))
    τNext)
    τ_law_r3))
theorem ty_tt (ds : List D) : isTy "tuple" (.tuple ds) = true := by simp [isTy, tyName]
theorem ty_ti (i : Int) : isTy "tuple" (.int i) = false := by simp [isTy, tyName]
theorem ty_bi (i : Int) : isTy "bool" (.int i) = false := by simp [isTy, tyName]
theorem ty_si (i : Int) : isTy "str" (.int i) = false := by simp [isTy, tyName]
theorem ty_ii (i : Int) : isTy "int" (.int i) = true := by simp [isTy, tyName]
local macro_rules | `(tactic| walk_at "dl") => `(tactic| simp only [τSeq, τAsg, τRet, τRetV, τOp, τC, τVar, τCons, consQ, τNil, τTup, τLst, τCB, τLc, τIterB, τIter, τRng1, τRng2, τPar, τLstRg, τRg1, τRg2, τTest, τTru, tru, τNot, τAnd, τOr, τAndV, τOrV, τNotV, τIf, τIfS, τSl, τPart, τNoPart, τFor, τApp, τExt, τFrz, τNever, τNext, τCall, callQ, anyBor, layAll, S.lay, S.d, S.fz, noBor, γName, lk, stv, DL.envOf, noneL, wipeE, bI0, bI, bPlus, bEq, bNe, bIx, bSl, bLen, bSum, bTuple, bList, bMaxDef, datas, τBits, τUn, τYes, τIsi, dctB, S.liv, lcStep, reduceIte, Bool.false_eq_true, List.length_cons, List.length_nil, Nat.reduceAdd, Nat.sub_self, Nat.reduceSub, true_and, and_true, Nat.zero_le, List.nil_append, ne_eq, reduceCtorEq, not_false_eq_true, ty_tt, ty_ti, ty_bi, ty_si, ty_ii, isNone, bIsN, bNotN, Bool.not_true, Bool.not_false, Bool.true_eq_false, beq_self_eq_true, sh_int, sh_bool, sh_nil, sh_nilT, S.solid, DL.solid, DL.solidAll, eqv_int, eqv_nil, eqv_nilT, and_self, decide_eq_true_eq, Option.map_some])
theorem pick_I {s : S} (js : List Nat) {Q : S → Prop} (e : s = .dat (.list (js.map nI))) (h0 : 0 < js.length ∧ js.length < 2 ^ 30) (h : ∀ j ∈ js, Q (.dat (nI j))) : sp__law_pick [.tok, s] x0 Q :=
  ⟨s, js.map nI, by rw [List.length_map]; exact h0, rfl, .inl e, fun d hd => by
    obtain ⟨j, hj, rfl⟩ := List.mem_map.mp hd
    exact h j hj⟩
theorem pick_T {s : S} (L : List (List Nat)) {Q : S → Prop} (e : s = .dat (.list (L.map tup))) (h0 : 0 < L.length ∧ L.length < 2 ^ 30) (h : ∀ j ∈ L, Q (.dat (tup j))) : sp__law_pick [.tok, s] x0 Q :=
  ⟨s, L.map tup, by rw [List.length_map]; exact h0, rfl, .inl e, fun d hd => by
    obtain ⟨j, hj, rfl⟩ := List.mem_map.mp hd
    exact h j hj⟩
abbrev Good (ns s : List Nat) : Prop := s.Pairwise (· < ·) ∧ ∀ x ∈ s, x ∈ ns
theorem good_drop {ns s : List Nat} (h : Good ns s) (n : Nat) : Good ns (s.drop n) := ⟨h.1.drop, fun x hx => h.2 x (List.mem_of_mem_drop hx)⟩
theorem good_take {ns s : List Nat} (h : Good ns s) (n : Nat) : Good ns (s.take n) := ⟨h.1.take, fun x hx => h.2 x (List.mem_of_mem_take hx)⟩
theorem sem__law_drawn_sets (ss : List S) (x : Xn) (Q : S → Prop) (h : sp__law_drawn_sets ss x Q) : τ__law_drawn_sets x { nx := fun _ => Q (.dat .none), rt := Q } (DL.envOf ss 7) := by
  obtain ⟨ns, ⟨h8, hne, hup⟩, rfl, q⟩ := h
  have e := sl_eq
  unfold τ__law_drawn_sets
  walk_at "dl"
  refine ⟨by omega, pick_I [0, 1, 2, 3, 4, 5, 6, 9] rfl (by decide) fun j hj => ?_⟩
  have hj9 : j ≤ 9 := by
    have : ∀ j ∈ [0, 1, 2, 3, 4, 5, 6, 9], j ≤ 9 := by decide
    exact this j hj
  walk_at "dl"
  refine ⟨by omega, ?_⟩
  rw [Int.toNat_natCast]
  refine forL_rng 0 j (fun k ρ => ∃ (sets : List (List Nat)) (a b c d : Option S), ρ = [some .tok, some (.dat (.list (ns.map nI))), some (.own (sets.map tup)), a, b, c, d] ∧ sets.length = k ∧ ∀ s ∈ sets, Good ns s) ⟨[], _, _, _, _, rfl, rfl, by simp⟩ (fun k hk ρ kk ⟨sets, a, b, c, d, e1, e2, e3⟩ hkk => ?_) fun ρ ⟨sets, a, b, c, d, e1, e2, e3⟩ => ?_
  · subst e1
    have h1 : ∀ M : DEnds, M.nx = kk → ∀ a b c one, Good ns one → τ__law_drawn_sets_r1 x M [some .tok, some (.dat (.list (ns.map nI))), some (.own (sets.map tup)), a, b, c, some (.dat (tup one))] := by
      intro M hM a b c one g
      unfold τ__law_drawn_sets_r1
      walk_at "dl"
      rw [hM, List.length_map]
      refine ⟨by omega, hkk _ ⟨sets ++ [one], _, _, _, _, by rw [List.map_append]; rfl, by rw [List.length_append, e2]; rfl, fun s hs => ?_⟩⟩
      rcases List.mem_append.mp hs with hs | hs
      · exact e3 s hs
      · rw [List.mem_singleton.mp hs]; exact g
    have h2 : ∀ M : DEnds, M.nx = kk → ∀ a (w : Nat) c one, Good ns one → τ__law_drawn_sets_r2 x M [some .tok, some (.dat (.list (ns.map nI))), some (.own (sets.map tup)), a, some (.dat (nI w)), c, some (.dat (tup one))] := by
      intro M hM a w c one g
      unfold τ__law_drawn_sets_r2
      walk_at "dl"
      split
      · refine ⟨4, by decide, rfl, fun r hr => ?_⟩
        walk_at "dl"
        split
        · exact h1 _ hM _ _ _ [] ⟨by simp, by simp⟩
        · exact h1 _ hM _ _ _ one g
      · exact h1 _ hM _ _ _ one g
    have hpk : ∀ {Q : S → Prop}, (!(sets.map tup).isEmpty) = true → (∀ s, Good ns s → Q (.dat (tup s))) → sp__law_pick [.tok, .dat (.list (sets.map tup))] x0 fun s => s.solid = true ∧ Q s := by
      intro Q hne' hq
      have h0 : 0 < sets.length := by
        rw [List.isEmpty_map] at hne'
        cases sets with
        | nil => cases hne'
        | cons _ _ => exact Nat.succ_pos _
      exact pick_T sets rfl ⟨h0, by omega⟩ fun s hs => ⟨solid_tup s, hq s (e3 s hs)⟩
    have h3 : ∀ M : DEnds, M.nx = kk → ∀ a (w : Nat) c one, Good ns one → τ__law_drawn_sets_r3 x M [some .tok, some (.dat (.list (ns.map nI))), some (.own (sets.map tup)), a, some (.dat (nI w)), c, some (.dat (tup one))] := by
      intro M hM a w c one g
      unfold τ__law_drawn_sets_r3
      walk_at "dl"
      split
      · refine ⟨sh_tups _, ?_⟩
        split
        · rename_i hne'
          refine hpk hne' fun s hs => ?_
          unfold tup
          walk_at "dl"
          rw [show (1 : Int) = ((1 : Nat) : Int) from rfl, cut_drop, ← List.map_drop]
          rw [cut_take, ← List.map_take]
          refine ⟨(flat_tup (s.drop 1)).sh (by omega), ?_⟩
          split
          · exact h2 _ hM _ _ _ (s.drop 1) (good_drop hs 1)
          · exact h2 _ hM _ _ _ (ns.take 1) (good_take ⟨hup, fun x hx => hx⟩ 1)
        · exact h2 _ hM _ _ _ one g
      · exact h2 _ hM _ _ _ one g
    walk_at "dl"
    refine ⟨8, by decide, rfl, fun w hw => ?_⟩
    walk_at "dl"
    refine ⟨by omega, pick_I [1, 2, 2, 3, 3, 4] rfl (by decide) fun m hm => ?_⟩
    walk_at "dl"
    refine ⟨_, ns.map nI, by rw [List.length_map]; omega, rfl, .inl rfl, fun es hp => ?_⟩
    obtain ⟨one, rfl, hone⟩ := perm_nI hp
    walk_at "dl"
    rw [cut_take, ← List.map_take]
    refine bSorted_nI (l := one.take m) rfl ?_
    walk_at "dl"
    have g : Good ns (sortN (one.take m)) := ⟨sortN_up ((hone.nodup_iff.mpr (up_nodup hup)).sublist (List.take_sublist _ _)), fun x hx => hone.mem_iff.mp (List.mem_of_mem_take ((sortN_perm _).mem_iff.mp hx))⟩
    split
    · refine ⟨sh_tups _, ?_⟩
      split
      · rename_i hne'
        refine hpk hne' fun s hs => ?_
        walk_at "dl"
        exact h3 _ rfl _ _ _ s hs
      · exact h3 _ rfl _ _ _ _ g
    · exact h3 _ rfl _ _ _ _ g
  · subst e1
    walk_at "dl"
    exact q sets (by omega) e3
/-! _law_same: two equal things -/
theorem plain_flat : ∀ {n : Nat} {d : D}, PlainD n d → Flat n d
  | 0, _, ⟨i, rfl⟩ => flat_int i
  | n + 1, _, .inl ⟨i, rfl⟩ => flat_int i _
  | n + 1, _, .inr ⟨ds, rfl, _, h⟩ => flat_tuple fun d hd => plain_flat (h d hd)
theorem sem_same_int (sp : DSp) (i : Int) (x : Xn) (Q : S → Prop) (q : Q (.dat (.bool true))) : τ__law_same sp x { nx := fun _ => Q (.dat .none), rt := Q } (DL.envOf [.dat (.int i), .dat (.int i)] 3) := by
  unfold τ__law_same τ__law_same_r5 τ__law_same_r3 τ__law_same_r2 τ__law_same_r1
  walk_at "dl"
  exact q
theorem sem_same_tup (sp : DSp) (ds : List D) (hl : ds.length ≤ 2 ^ 20) (h : ∀ d ∈ ds, ∀ Q : S → Prop, Q (.dat (.bool true)) → sp [.dat d, .dat d] x0 Q) (x : Xn) (Q : S → Prop) (q : Q (.dat (.bool true))) : τ__law_same sp x { nx := fun _ => Q (.dat .none), rt := Q } (DL.envOf [.dat (.tuple ds), .dat (.tuple ds)] 3) := by
  have e := sl_eq
  unfold τ__law_same τ__law_same_r4
  walk_at "dl"
  rw [if_neg (by decide), Int.toNat_natCast, rg_nI]
  refine ⟨by omega, ?_⟩
  refine lcL_filtA (fun _ => false) nI (fun n hn acc k ha hk hk2 => ?_) (by rw [List.length_range]; omega) ?_
  · have hn' := List.mem_range.mp hn
    walk_at "dl"
    rw [DL.atI_nat, List.getElem?_eq_getElem hn']
    walk_at "dl"
    refine h _ (List.getElem_mem hn') _ ?_
    walk_at "dl"
    exact hk2 rfl
  · rw [show (List.range ds.length).filter (fun _ => false) = [] from List.filter_eq_nil_iff.mpr fun _ _ => by simp]
    exact ⟨sh_nil, q⟩
theorem sem_same (n : Nat) (sp : DSp) (hsp : ∀ m, n = m + 1 → sp = sp_same m) (ss : List S) (x : Xn) (Q : S → Prop) (h : sp_same n ss x Q) : τ__law_same sp x { nx := fun _ => Q (.dat .none), rt := Q } (DL.envOf ss 3) := by
  obtain ⟨d, hd, rfl, q⟩ := h
  cases n with
  | zero =>
    obtain ⟨i, rfl⟩ := hd
    exact sem_same_int sp i x Q q
  | succ n =>
    rcases hd with ⟨i, rfl⟩ | ⟨ds, rfl, hl, hds⟩
    · exact sem_same_int sp i x Q q
    · refine sem_same_tup sp ds hl (fun d hd Q q => ?_) x Q q
      rw [hsp n rfl]
      exact ⟨d, hds d hd, rfl, q⟩
/-! the mathematics of the law -/
theorem mem_prods_snoc {rows : List (List Nat)} {r lot : List Nat} : lot ∈ prods (rows ++ [r]) ↔ ∃ a n, a ∈ prods rows ∧ n ∈ r ∧ lot = a ++ [n] := by
  rw [prods_snoc, List.mem_flatMap]
  constructor
  · rintro ⟨a, h1, h2⟩
    obtain ⟨n, h3, rfl⟩ := List.mem_map.mp h2
    exact ⟨a, n, h1, h3, rfl⟩
  · rintro ⟨a, n, h1, h3, rfl⟩
    exact ⟨a, h1, List.mem_map.mpr ⟨n, h3, rfl⟩⟩
abbrev Apart (rows : List (List Nat)) : Prop := rows.Pairwise fun r s => ∀ x ∈ r, x ∉ s
theorem apart_snoc {rows : List (List Nat)} {r : List Nat} (h : Apart (rows ++ [r])) : Apart rows ∧ ∀ s ∈ rows, ∀ x ∈ s, x ∉ r := by
  have h1 := List.pairwise_append.mp h
  exact ⟨h1.1, fun s hs x hx => h1.2.2 s hs r (by simp) x hx⟩
theorem prods_in {rows : List (List Nat)} : ∀ lot ∈ prods rows, ∀ x ∈ lot, ∃ s ∈ rows, x ∈ s := by
  refine snoc_ind (P := fun rows => ∀ lot ∈ prods rows, ∀ x ∈ lot, ∃ s ∈ rows, x ∈ s) (fun lot hl x hx => ?_) (fun rows r ih lot hl x hx => ?_) rows
  · have : lot = [] := by simpa [prods] using hl
    rw [this] at hx; cases hx
  · obtain ⟨a, n, h1, h2, rfl⟩ := mem_prods_snoc.mp hl
    rcases List.mem_append.mp hx with h | h
    · obtain ⟨s, hs, hxs⟩ := ih a h1 x h
      exact ⟨s, by simp [hs], hxs⟩
    · exact ⟨r, by simp, by rw [List.mem_singleton.mp h]; exact h2⟩
theorem prods_nodup {rows : List (List Nat)} (h : Apart rows) : ∀ lot ∈ prods rows, lot.Nodup := by
  revert h
  refine snoc_ind (P := fun rows => Apart rows → ∀ lot ∈ prods rows, lot.Nodup) (fun _ lot hl => ?_) (fun rows r ih h lot hl => ?_) rows
  · have : lot = [] := by simpa [prods] using hl
    rw [this]; exact List.nodup_nil
  · obtain ⟨a, n, h1, h2, rfl⟩ := mem_prods_snoc.mp hl
    obtain ⟨h3, h4⟩ := apart_snoc h
    refine List.nodup_append.mpr ⟨ih h3 a h1, by simp, fun x hx y hy e => ?_⟩
    obtain ⟨s, hs, hxs⟩ := prods_in a h1 x hx
    rw [List.mem_singleton.mp hy] at e
    exact h4 s hs x hxs (e ▸ h2)
theorem prods_one {rows : List (List Nat)} (h : Apart rows) : ∀ lot ∈ prods rows, ∀ s ∈ rows, ∃ x ∈ s, x ∈ lot ∧ ∀ y ∈ s, y ∈ lot → y = x := by
  revert h
  refine snoc_ind (P := fun rows => Apart rows → ∀ lot ∈ prods rows, ∀ s ∈ rows, ∃ x ∈ s, x ∈ lot ∧ ∀ y ∈ s, y ∈ lot → y = x) (fun _ lot hl s hs => by cases hs) (fun rows r ih h lot hl s hs => ?_) rows
  obtain ⟨a, n, h1, h2, rfl⟩ := mem_prods_snoc.mp hl
  obtain ⟨h3, h4⟩ := apart_snoc h
  rcases List.mem_append.mp hs with hs | hs
  · obtain ⟨x, hx, hxa, hu⟩ := ih h3 a h1 s hs
    refine ⟨x, hx, by simp [hxa], fun y hy hya => ?_⟩
    rcases List.mem_append.mp hya with q | q
    · exact hu y hy q
    · exact absurd h2 (by rw [← List.mem_singleton.mp q]; exact h4 s hs y hy)
  · rw [List.mem_singleton.mp hs]
    refine ⟨n, h2, by simp, fun y hy hya => ?_⟩
    rcases List.mem_append.mp hya with q | q
    · obtain ⟨t, ht, hyt⟩ := prods_in a h1 y q
      exact absurd hy (h4 t ht y hyt)
    · exact List.mem_singleton.mp q
theorem prods_pick {rows : List (List Nat)} {l : List Nat} (h : Hits rows l) : ∃ lot ∈ prods rows, ∀ x ∈ lot, x ∈ l := by
  revert h
  refine snoc_ind (P := fun rows => Hits rows l → ∃ lot ∈ prods rows, ∀ x ∈ lot, x ∈ l) (fun _ => ⟨[], by simp [prods], by simp⟩) (fun rows r ih h => ?_) rows
  obtain ⟨a, h1, h2⟩ := ih fun s hs => h s (by simp [hs])
  obtain ⟨n, h3, h4⟩ := h r (by simp)
  refine ⟨a ++ [n], mem_prods_snoc.mpr ⟨a, n, h1, h3, rfl⟩, fun x hx => ?_⟩
  rcases List.mem_append.mp hx with q | q
  · exact h2 x q
  · rw [List.mem_singleton.mp q]; exact h4
theorem prods_ext {rows : List (List Nat)} (h : Apart rows) : ∀ a ∈ prods rows, ∀ b ∈ prods rows, (∀ x, x ∈ a ↔ x ∈ b) → a = b := by
  revert h
  refine snoc_ind (P := fun rows => Apart rows → ∀ a ∈ prods rows, ∀ b ∈ prods rows, (∀ x, x ∈ a ↔ x ∈ b) → a = b) (fun _ a ha b hb _ => ?_) (fun rows r ih h a ha b hb e => ?_) rows
  · have h1 : a = [] := by simpa [prods] using ha
    have h2 : b = [] := by simpa [prods] using hb
    rw [h1, h2]
  · obtain ⟨c, n, h1, h2, rfl⟩ := mem_prods_snoc.mp ha
    obtain ⟨d, m, h5, h6, rfl⟩ := mem_prods_snoc.mp hb
    obtain ⟨h3, h4⟩ := apart_snoc h
    have out : ∀ c ∈ prods rows, ∀ n ∈ r, n ∉ c := fun c hc n hn hnc => by
      obtain ⟨s, hs, hns⟩ := prods_in c hc n hnc
      exact h4 s hs n hns hn
    have hnm : n = m := by
      have := (e n).mp (by simp)
      rcases List.mem_append.mp this with q | q
      · exact absurd q (out d h5 n h2)
      · exact List.mem_singleton.mp q
    subst hnm
    rw [ih h3 c h1 d h5 fun x => ?_]
    have hx := e x
    rw [List.mem_append, List.mem_append, List.mem_singleton] at hx
    constructor
    · intro q
      rcases hx.mp (.inl q) with q2 | q2
      · exact q2
      · rw [q2] at q; exact absurd q (out c h1 n h2)
    · intro q
      rcases hx.mpr (.inl q) with q2 | q2
      · exact q2
      · rw [q2] at q; exact absurd q (out d h5 n h2)
theorem prods_all_nodup {rows : List (List Nat)} (hn : ∀ r ∈ rows, r.Nodup) : (prods rows).Nodup := by
  revert hn
  refine snoc_ind (P := fun rows => (∀ r ∈ rows, r.Nodup) → (prods rows).Nodup) (fun _ => by simp [prods]) (fun rows r ih hn => ?_) rows
  rw [prods_snoc]
  refine List.pairwise_flatMap.mpr ⟨fun a _ => nodup_map (fun n _ m _ e => by simpa using e) (hn r (by simp)), (ih fun s hs => hn s (by simp [hs])).imp fun {a b} hab x hx y hy e => ?_⟩
  obtain ⟨n, _, rfl⟩ := List.mem_map.mp hx
  obtain ⟨m, _, rfl⟩ := List.mem_map.mp hy
  exact hab (List.append_inj' e rfl).1
theorem mem_sortN {l : List Nat} {x : Nat} : x ∈ sortN l ↔ x ∈ l := (sortN_perm l).mem_iff
theorem prods_min {rows : List (List Nat)} (h : Apart rows) (l : List Nat) : MinHit rows l ↔ l ∈ (prods rows).map sortN := by
  have hit : ∀ lot ∈ prods rows, ∀ m : List Nat, (∀ x ∈ lot, x ∈ m) → Hits rows m := fun lot hl m hm s hs => by
    obtain ⟨x, h1, h2, _⟩ := prods_one h lot hl s hs
    exact ⟨x, h1, hm x h2⟩
  rw [List.mem_map]
  constructor
  · rintro ⟨h1, h2, h3⟩
    obtain ⟨lot, h4, h5⟩ := prods_pick h2
    refine ⟨lot, h4, rising_ext (sortN_up (prods_nodup h lot h4)) h1 fun x => ?_⟩
    rw [mem_sortN]
    refine ⟨h5 x, fun hx => ?_⟩
    by_cases q : x ∈ lot
    · exact q
    · exact absurd (hit lot h4 (l.filter fun m => decide (m ≠ x)) fun y hy => List.mem_filter.mpr ⟨h5 y hy, decide_eq_true (fun e : y = x => q (e ▸ hy))⟩) (h3 x hx)
  · rintro ⟨lot, h4, rfl⟩
    refine ⟨sortN_up (prods_nodup h lot h4), hit lot h4 _ fun x hx => mem_sortN.mpr hx, fun n hn hc => ?_⟩
    rw [mem_sortN] at hn
    obtain ⟨s, hs, hns⟩ := prods_in lot h4 n hn
    obtain ⟨y, h1, h2⟩ := hc s hs
    obtain ⟨x, _, _, hu⟩ := prods_one h lot h4 s hs
    have h5 := List.mem_filter.mp h2
    have h6 := hu y h1 (mem_sortN.mp h5.1)
    have h7 := hu n hns hn
    exact of_decide_eq_true h5.2 (h6.trans h7.symm)
theorem prods_sorted_nodup {rows : List (List Nat)} (h : Apart rows) (hn : ∀ r ∈ rows, r.Nodup) : ((prods rows).map sortN).Nodup :=
  nodup_map (fun a ha b hb e => prods_ext h a ha b hb fun x => by rw [← mem_sortN, e, mem_sortN]) (prods_all_nodup hn)
theorem same_list {L M : List (List Nat)} {sets : List (List Nat)} (hL : L.Nodup) (hM : M.Nodup) (h1 : ∀ l, l ∈ L ↔ MinHit sets l) (h2 : ∀ l, MinHit sets l ↔ l ∈ M) : sortD (L.map tup) = sortD (M.map tup) :=
  sortD_tups ((List.perm_ext_iff_of_nodup hL hM).mpr fun l => (h1 l).trans (h2 l))
theorem minHit_congr {s t : List (List Nat)} (h : ∀ x, x ∈ s ↔ x ∈ t) (l : List Nat) : MinHit s l ↔ MinHit t l := by
  have hh : ∀ l, Hits s l ↔ Hits t l := fun l => ⟨fun q x hx => q x ((h x).mpr hx), fun q x hx => q x ((h x).mp hx)⟩
  unfold MinHit
  rw [hh]
  refine and_congr Iff.rfl (and_congr Iff.rfl (forall_congr' fun n => forall_congr' fun _ => not_congr (hh _)))
theorem sub_of {ns : List Nat} : ∀ {l : List Nat}, ns.Pairwise (· < ·) → l.Pairwise (· < ·) → (∀ x ∈ l, x ∈ ns) → l = ns.filter fun x => decide (x ∈ l) := fun h1 h2 h3 =>
  rising_ext h2 (h1.filter _) fun x => by
    rw [List.mem_filter, decide_eq_true_eq]
    exact ⟨fun q => ⟨h3 x q, q⟩, fun q => q.2⟩
theorem subs_min {ns : List Nat} {sets : List (List Nat)} (hu : ns.Pairwise (· < ·)) (hs : ∀ s ∈ sets, ∀ x ∈ s, x ∈ ns) (l : List Nat) : MinHit sets l ↔ l ∈ (subs ns).filter (minB sets) := by
  rw [List.mem_filter, (subs_facts ns).2]
  constructor
  · intro h
    refine ⟨?_, (minB_iff h.1).mpr h⟩
    have hin : ∀ x ∈ l, x ∈ ns := fun x hx => by
      by_cases q : ∃ s ∈ sets, x ∈ s
      · obtain ⟨s, h1, h2⟩ := q
        exact hs s h1 x h2
      · refine absurd (fun s hs' => ?_) (h.2.2 x hx)
        obtain ⟨n, h1, h2⟩ := h.2.1 s hs'
        exact ⟨n, h1, List.mem_filter.mpr ⟨h2, decide_eq_true fun e => q ⟨s, hs', e ▸ h1⟩⟩⟩
    rw [sub_of hu h.1 hin]
    exact List.filter_sublist
  · rintro ⟨h1, h2⟩
    exact (minB_iff (hu.sublist h1)).mp h2
theorem minHit_none (l : List Nat) : MinHit [] l ↔ l ∈ ([[]] : List (List Nat)) := by
  rw [List.mem_singleton]
  constructor
  · intro h
    exact minHit_nil ⟨List.Pairwise.nil, (fun s hs => by cases hs), (fun n hn => by cases hn)⟩ h
  · rintro rfl
    exact ⟨List.Pairwise.nil, (fun s hs => by cases hs), (fun n hn => by cases hn)⟩
theorem minHit_never {rows : List (List Nat)} (l : List Nat) : MinHit (rows ++ [[]]) l ↔ l ∈ ([] : List (List Nat)) := by
  constructor
  · intro h
    obtain ⟨n, h1, _⟩ := h.2.1 [] (by simp)
    cases h1
  · intro h; cases h
/-! the law -/
theorem plain_tup (l : List Nat) (h : l.length ≤ 2 ^ 20) : PlainD 1 (tup l) := .inr ⟨_, rfl, by rw [List.length_map]; exact h, fun e he => by
  obtain ⟨n, _, rfl⟩ := List.mem_map.mp he
  exact ⟨n, rfl⟩⟩
theorem plain_tups {L : List (List Nat)} (h : L.length ≤ 2000) (hl : ∀ l ∈ L, l.length ≤ 2 ^ 20) : PlainD 2 (.tuple (sortD (L.map tup))) := .inr ⟨_, rfl, by
    rw [show (sortD (L.map tup)).length = (L.map tup).length from List.length_mergeSort _, List.length_map]; omega, fun e he => by
  obtain ⟨l, hl', rfl⟩ := List.mem_map.mp ((List.mergeSort_perm _ _).mem_iff.mp he)
  exact plain_tup l (hl l hl')⟩
theorem same_use {d : D} (h : PlainD 2 d) {Q : S → Prop} (q : Q (.dat (.bool true))) : sp_same 2 [.dat d, .dat d] x0 Q := ⟨d, h, rfl, q⟩
theorem lh_use {s : S} (sets M : List (List Nat)) {Q : S → Prop} (es : s = .dat (.tuple (sets.map tup))) (ok : SetsOk 20 sets) (hs : sets.length ≤ 1000) (hM : M.Nodup) (hl : M.length ≤ 2000) (hm : ∀ l, MinHit sets l ↔ l ∈ M) (q : Q (.dat (.tuple (sortD (M.map tup))))) : sp_least_hitting [s] x0 Q :=
  ⟨sets, M, ⟨ok, hs, hl, fun l h => (hm l).mp h⟩, by rw [es], fun L h1 h2 => by rw [same_list h1 hM h2 hm]; exact q⟩
theorem sortD_one (d : D) : sortD [d] = [d] := sort_short (by simp)
theorem sortD_nil : sortD [] = [] := sort_short (by simp)
theorem tup_nil : PyData.tuple [] = tup [] := rfl
theorem solid_sortD (L : List (List Nat)) : solidAll (sortD (L.map tup)) = true := solidAll_of fun d hd => by
  obtain ⟨a, _, rfl⟩ := List.mem_map.mp ((List.mergeSort_perm _ _).mem_iff.mp hd)
  exact solid_tup a
theorem r1_law (x : Xn) (Q : S → Prop) (q : Q (.dat (.bool true))) (a b c d e f g h : Option S) (rows : List (List Nat)) (hr : rows.length ≤ 6) (hu : ∀ r ∈ rows, r.Pairwise (· < ·)) (hlt : ∀ r ∈ rows, ∀ n ∈ r, n < 20) :
    τ_law_r1 x { nx := fun _ => False, rt := Q } [a, b, c, d, e, f, some (.own (rows.map tup)), g, h] := by
  have es := sl_eq
  unfold τ_law_r1
  walk_at "dl"
  refine lh_use [] [[]] rfl ⟨by simp, by simp⟩ (by simp) (by simp) (by simp) minHit_none ?_
  walk_at "dl"
  rw [List.map_cons, List.map_nil, sortD_one]
  refine ⟨by omega, same_use (d := .tuple [tup []]) (.inr ⟨_, rfl, by simp, fun d hd => by rw [List.mem_singleton.mp hd]; exact plain_tup [] (by simp)⟩) ?_⟩
  walk_at "dl"
  rw [List.length_map]
  refine ⟨by omega, by omega, lh_use (rows ++ [[]]) [] (by rw [List.map_append]; rfl) ⟨fun s hs => ?_, fun s hs => ?_⟩ (by simp; omega) (by simp) (by simp) minHit_never ?_⟩
  · rcases List.mem_append.mp hs with q | q
    · exact hu s q
    · rw [List.mem_singleton.mp q]; exact List.Pairwise.nil
  · rcases List.mem_append.mp hs with q | q
    · exact hlt s q
    · rw [List.mem_singleton.mp q]; intro n hn; cases hn
  · walk_at "dl"
    rw [List.map_nil, sortD_nil]
    refine same_use (.inr ⟨[], rfl, by simp, by simp⟩) ?_
    walk_at "dl"
    exact q
structure Rows (lf : List Nat) (rs : List (List Nat)) : Prop where
  up : ∀ r ∈ rs, r.Pairwise (· < ·)
  sz : ∀ r ∈ rs, r.length ≤ 3
  lt : ∀ r ∈ rs, ∀ x ∈ r, x < 20
  ap : ∀ r ∈ rs, ∀ x ∈ r, x ∉ lf
  pw : Apart rs
  nd : lf.Nodup
  lf : ∀ x ∈ lf, x < 20
theorem Rows.step {lf : List Nat} {rs : List (List Nat)} (h : Rows lf rs) (m : Nat) (hm : m ≤ 3) : Rows (lf.drop m) (rs ++ [sortN (lf.take m)]) := by
  have cut := List.nodup_append.mp (show (lf.take m ++ lf.drop m).Nodup by rw [List.take_append_drop]; exact h.nd)
  have mem : ∀ {r : List Nat} {P : List Nat → Prop}, r ∈ rs ++ [sortN (lf.take m)] → (∀ r ∈ rs, P r) → P (sortN (lf.take m)) → P r := fun {r P} hr h1 h2 => by
    rcases List.mem_append.mp hr with q | q
    · exact h1 _ q
    · rw [List.mem_singleton.mp q]; exact h2
  refine ⟨fun r hr => mem hr h.up (sortN_up cut.1), fun r hr => mem (P := fun r => r.length ≤ 3) hr h.sz ?_, fun r hr => mem (P := fun r => ∀ x ∈ r, x < 20) hr h.lt fun x hx => h.lf x (List.mem_of_mem_take (mem_sortN.mp hx)),
    fun r hr => mem (P := fun r => ∀ x ∈ r, x ∉ lf.drop m) hr (fun r hr x hx q => h.ap r hr x hx (List.mem_of_mem_drop q)) fun x hx q => cut.2.2 x (mem_sortN.mp hx) x q rfl,
    List.pairwise_append.mpr ⟨h.pw, List.pairwise_singleton _ _, fun r hr s hs x hx q => ?_⟩, cut.2.1, fun x hx => h.lf x (List.mem_of_mem_drop hx)⟩
  · rw [(sortN_perm _).length_eq, List.length_take]; omega
  · rw [List.mem_singleton.mp hs] at q
    exact h.ap r hr x hx (List.mem_of_mem_take (mem_sortN.mp q))
def τ_law_it : DTI := τRng1 (τCons (τIf (τTest (τOp (bI0 fun i j => .bool (decide (j < i))) (τCall sp__law_draw (τCons (τVar 1) (τCons (τC (.int 6)) τNil))) (τC (.int 0)))) (τCall sp__law_pick (τCons (τVar 1) (τCons (τLst (τCons (τC (.int 1)) (τCons (τC (.int 2)) (τCons (τC (.int 3)) (τCons (τC (.int 4)) τNil))))) τNil))) (τC (.int 6))) τNil)
theorem it_law (x : Xn) (a c d e f g h i : Option S) (Qd : List D → Prop) (hq : ∀ j : Nat, j ≤ 6 → Qd (rgD 0 j)) : τ_law_it x [a, some .tok, c, d, e, f, g, h, i] Qd := by
  have es := sl_eq
  unfold τ_law_it
  walk_at "dl"
  refine ⟨6, by decide, rfl, fun r hr => ?_⟩
  walk_at "dl"
  split
  · refine ⟨by omega, pick_I [1, 2, 3, 4] rfl (by decide) fun j hj => ?_⟩
    have hj9 : j ≤ 6 := by
      have : ∀ j ∈ [1, 2, 3, 4], j ≤ 6 := by decide
      exact this j hj
    walk_at "dl"
    exact ⟨by omega, by rw [Int.toNat_natCast]; exact hq j hj9⟩
  · exact ⟨by decide, hq 6 (Nat.le_refl _)⟩
theorem r2_law (x : Xn) (Q : S → Prop) (q : Q (.dat (.bool true))) (a c d e f g : Option S) :
    τ_law_r2 x { nx := fun _ => False, rt := Q } [a, some .tok, c, d, e, f, g, none, none] := by
  have es := sl_eq
  unfold τ_law_r2
  simp only [τSeq, τPar, τCall, τCons, τVar, τLstRg, τRg1, τC, τLst, lk, S.fz, callQ, anyBor, τNil, noBor, stv, datas, true_and, and_true, Nat.zero_le, List.length_nil, Int.sub_zero]
  refine ⟨.of_le (by omega) (by omega) (by omega) (by omega), ?_⟩
  rw [show (20 : Int).toNat = 20 from rfl, rg_nI]
  refine ⟨_, (List.range 20).map nI, by rw [List.length_map, List.length_range]; omega, rfl, .inl rfl, fun es hp => ?_⟩
  obtain ⟨lf, rfl, hlf⟩ := perm_nI hp
  simp only [noBor, true_and]
  unfold τFor
  refine it_law _ _ _ _ _ _ _ _ _ _ fun j hj => ?_
  refine forL_rng 0 j (fun k ρ => ∃ (lf : List Nat) (rs : List (List Nat)) (u v : Option S), ρ = [a, some .tok, c, d, e, some (.own (lf.map nI)), some (.own (rs.map tup)), u, v] ∧ Rows lf rs ∧ rs.length = k) ⟨lf, [], _, _, rfl, ⟨by simp, by simp, by simp, by simp, List.Pairwise.nil, hlf.nodup_iff.mpr List.nodup_range, fun x hx => List.mem_range.mp (hlf.mem_iff.mp hx)⟩, rfl⟩ (fun k hk ρ kk ⟨lf, rs, u, v, e1, R, e2⟩ hkk => ?_) fun ρ ⟨lf, rs, u, v, e1, R, e2⟩ => ?_
  · subst e1
    walk_at "dl"
    refine ⟨by omega, pick_I [1, 2, 3, 3] rfl (by decide) fun m hm => ?_⟩
    have hm3 : m ≤ 3 := by
      have : ∀ j ∈ [1, 2, 3, 3], j ≤ 3 := by decide
      exact this m hm
    walk_at "dl"
    rw [cut_take, ← List.map_take]
    refine bSorted_nI (l := lf.take m) rfl ?_
    walk_at "dl"
    rw [cut_drop, ← List.map_drop, List.length_map]
    exact ⟨by omega, hkk _ ⟨lf.drop m, rs ++ [sortN (lf.take m)], _, _, by rw [List.map_append]; rfl, R.step m hm3, by rw [List.length_append, e2]; rfl⟩⟩
  · subst e1
    have hnd : ∀ r ∈ rs, r.Nodup := fun r hr => up_nodup (R.up r hr)
    have hsz : (prods rs).length ≤ 729 := Nat.le_trans (prods_size R.sz) (Nat.le_trans (Nat.pow_le_pow_right (n := 3) (by omega) (by omega : rs.length ≤ 6)) (by decide))
    walk_at "dl"
    refine lh_use rs ((prods rs).map sortN) rfl ⟨R.up, R.lt⟩ (by omega) (prods_sorted_nodup R.pw hnd) (by rw [List.length_map]; omega) (prods_min R.pw) ?_
    walk_at "dl"
    refine ⟨rs, ⟨by omega, R.sz⟩, rfl, ?_⟩
    walk_at "dl"
    refine ⟨solid_sortD _, same_use (plain_tups (by rw [List.length_map]; omega) fun l hl => ?_) ?_⟩
    · obtain ⟨l', h1, rfl⟩ := List.mem_map.mp hl
      rw [(sortN_perm _).length_eq, prods_len rs l' h1]
      omega
    · walk_at "dl"
      exact r1_law x Q q _ _ _ _ _ _ _ _ rs (by omega) R.up R.lt
structure NumsOk (ns : List Nat) : Prop where
  up : ns.Pairwise (· < ·)
  ne : ns ≠ []
  le : ns.length ≤ 8
  lt : ∀ n ∈ ns, n < 20
theorem r3_law (x : Xn) (Q : S → Prop) (q : Q (.dat (.bool true))) (a : Option S) (ns : List Nat) (ok : NumsOk ns) :
    τ_law_r3 x { nx := fun _ => False, rt := Q } [a, some .tok, some (.own (ns.map nI)), none, none, none, none, none, none] := by
  have es := sl_eq
  unfold τ_law_r3
  walk_at "dl"
  refine ⟨ns, ⟨ok.le, ok.ne, ok.up⟩, rfl, fun sets h9 hs => ⟨solid_tups sets, ?_⟩⟩
  have hnn : ∀ s ∈ sets, s.length ≤ 8 := fun s hs' => Nat.le_trans (nodup_le (up_nodup (hs s hs').1) (hs s hs').2) ok.le
  have hsz : (subs ns).length ≤ 256 := by
    rw [(subs_facts ns).1]
    exact Nat.le_trans (Nat.pow_le_pow_right (n := 2) (by omega) ok.le) (by decide)
  have hfl : ((subs ns).filter (minB sets)).length ≤ 256 := Nat.le_trans (List.length_filter_le _ _) hsz
  have hfn : ((subs ns).filter (minB sets)).Nodup := (subs_nodup (up_nodup ok.up)).filter _
  have hplain : PlainD 2 (.tuple (sortD (((subs ns).filter (minB sets)).map tup))) := plain_tups (by omega) fun l hl => by
    have := (((subs_facts ns).2 l).mp (List.mem_filter.mp hl).1).length_le
    have := ok.le
    omega
  walk_at "dl"
  refine ⟨ns, sets, ⟨ok.le, up_nodup ok.up, by omega, fun t ht => by have := hnn t ht; omega⟩, rfl, ?_⟩
  walk_at "dl"
  refine ⟨solid_sortD _, ?_⟩
  refine lh_use sets ((subs ns).filter (minB sets)) rfl ⟨fun s h => (hs s h).1, fun s h n hn => ok.lt n ((hs s h).2 n hn)⟩ (by omega) hfn (by omega) (subs_min ok.up fun s h => (hs s h).2) ?_
  walk_at "dl"
  refine same_use hplain ?_
  walk_at "dl"
  rw [show (2 : Int) = ((2 : Nat) : Int) from rfl, cut_take, ← List.map_take, ← List.map_append]
  have h2 : (sets ++ sets.take 2).length ≤ 18 := by rw [List.length_append, List.length_take]; omega
  refine ⟨by rw [List.length_map, List.length_map, ← List.length_append]; omega, _, (sets ++ sets.take 2).map tup, by rw [List.length_map]; omega, rfl, .inr rfl, fun es' hp => ?_⟩
  obtain ⟨sets2, rfl, hp2⟩ := perm_tup hp
  have hmem : ∀ t, t ∈ sets2 ↔ t ∈ sets := fun t => by
    rw [hp2.mem_iff, List.mem_append]
    exact ⟨fun h => h.elim id List.mem_of_mem_take, .inl⟩
  walk_at "dl"
  refine lh_use sets2 ((subs ns).filter (minB sets)) rfl ⟨fun s h => (hs s ((hmem s).mp h)).1, fun s h n hn => ok.lt n ((hs s ((hmem s).mp h)).2 n hn)⟩ (by rw [hp2.length_eq]; omega) hfn (by omega) (fun l => (minHit_congr hmem l).trans (subs_min ok.up (fun s h => (hs s h).2) l)) ?_
  walk_at "dl"
  refine same_use hplain ?_
  walk_at "dl"
  exact r2_law x Q q _ _ _ _ _ _
theorem sem_law (x : Xn) (Q : S → Prop) (q : Q (.dat (.bool true))) (a : Option S) :
    τ_law x { nx := fun _ => False, rt := Q } [a, some .tok, none, none, none, none, none, none, none] := by
  have es := sl_eq
  unfold τ_law
  walk_at "dl"
  refine ⟨.of_le (by omega) (by omega) (by omega) (by omega), ?_⟩
  rw [show ((20 : Int) - 0).toNat = 20 from rfl, rg_nI]
  refine ⟨_, (List.range 20).map nI, by rw [List.length_map, List.length_range]; omega, rfl, .inl rfl, fun ds hp => ?_⟩
  obtain ⟨lf, rfl, hlf⟩ := perm_nI hp
  have hnd : lf.Nodup := hlf.nodup_iff.mpr List.nodup_range
  refine ⟨8, by decide, rfl, fun r hr => ?_⟩
  walk_at "dl"
  rw [show (1 : Int) + (r : Int) = ((1 + r : Nat) : Int) by omega, cut_take, ← List.map_take]
  refine bSorted_nI (l := lf.take (1 + r)) rfl ?_
  walk_at "dl"
  refine ⟨3, by decide, rfl, fun r2 hr2 => ?_⟩
  have hlen : (sortN (lf.take (1 + r))).length = 1 + r := by
    rw [(sortN_perm _).length_eq, List.length_take, hlf.length_eq, List.length_range]
    omega
  walk_at "dl"
  split
  · rw [List.length_map, hlen]
    refine ⟨.of_le (by omega) (by omega) (by omega) (by omega), ?_⟩
    have e1 : rgD (20 - ((1 + r : Nat) : Int)) ((20 : Int) - (20 - ((1 + r : Nat) : Int))).toNat = (List.range' (20 - (1 + r)) (1 + r)).map nI := by
      rw [show ((20 : Int) - (20 - ((1 + r : Nat) : Int))).toNat = 1 + r by omega]
      unfold rgD
      rw [List.range'_eq_map_range, List.map_map]
      refine List.map_congr_left fun k _ => ?_
      show PyData.int (20 - ((1 + r : Nat) : Int) + (k : Int)) = PyData.int ((20 - (1 + r) + k : Nat) : Int)
      rw [show (20 - ((1 + r : Nat) : Int) + (k : Int)) = ((20 - (1 + r) + k : Nat) : Int) by omega]
    rw [e1]
    refine r3_law x Q q _ _ ⟨List.pairwise_lt_range', ?_, by rw [List.length_range']; omega, fun n hn => ?_⟩
    · intro h
      have := congrArg List.length h
      rw [List.length_range'] at this
      simp at this
    · have := List.mem_range'_1.mp hn
      omega
  · refine r3_law x Q q _ _ ⟨sortN_up (hnd.sublist (List.take_sublist _ _)), ?_, by omega, fun n hn => ?_⟩
    · intro h
      rw [h] at hlen
      simp at hlen
      omega
    · exact List.mem_range.mp (hlf.mem_iff.mp (List.mem_of_mem_take (mem_sortN.mp hn)))
end Law

set_option Elab.async false
set_option linter.all false
set_option maxRecDepth 100000
/-! M3: all that hold one of a family; rows none of which holds another. -/
namespace Mb
theorem one_bit {n F t m : Nat} (ht : t < n) (hm : m < 2 ^ n) : ((F &&& famW t (n - (t + 1))) * 2 ^ (2 ^ t)).testBit m = true ↔ m.testBit t = true ∧ F.testBit (m - 2 ^ t) = true := by
  rw [shl_testBit, Nat.testBit_and, wn ht]
  constructor
  · intro h
    have h' : 2 ^ t ≤ m ∧ F.testBit (m - 2 ^ t) = true ∧ m - 2 ^ t < 2 ^ n ∧ (m - 2 ^ t).testBit t = false := by simpa using h
    refine ⟨?_, h'.2.1⟩
    rw [show m = (m - 2 ^ t) + 2 ^ t by omega, plus_bit h'.2.2.2]
    simp
  · rintro ⟨h1, h2⟩
    obtain ⟨h3, h4⟩ := minus_bit h1
    have h5 : (m - 2 ^ t).testBit t = false := by rw [h4]; simp
    have h6 : m - 2 ^ t < 2 ^ n := Nat.lt_of_le_of_lt (Nat.sub_le _ _) hm
    simp [h2, h3, h5, h6]
/-- all that hold one of the family -/
def holding (n F : Nat) : Nat → Nat
  | 0 => F
  | k + 1 => holding n F k ||| (holding n F k &&& famW k (n - (k + 1))) * 2 ^ (2 ^ k)
theorem holding_bits {n F : Nat} (hF : F < 2 ^ (2 ^ n)) : ∀ t, t ≤ n → ∀ m, (holding n F t).testBit m = true → m < 2 ^ n
  | 0, _, m, h => by
    have h1 := Nat.ge_two_pow_of_testBit h
    exact (Nat.pow_lt_pow_iff_right (by omega : 1 < 2)).mp (Nat.lt_of_le_of_lt h1 hF)
  | t + 1, ht, m, h => by
    have h' : ((holding n F t) ||| (holding n F t &&& famW t (n - (t + 1))) * 2 ^ (2 ^ t)).testBit m = true := h
    rw [Nat.testBit_or, Bool.or_eq_true] at h'
    rcases h' with h' | h'
    · exact holding_bits hF t (by omega) m h'
    · rw [shl_testBit, Nat.testBit_and, wn (by omega)] at h'
      have h2 : 2 ^ t ≤ m ∧ (holding n F t).testBit (m - 2 ^ t) = true ∧ m - 2 ^ t < 2 ^ n ∧ (m - 2 ^ t).testBit t = false := by simpa using h'
      have e : m = (m - 2 ^ t) + 2 ^ t := by omega
      rw [e]
      refine Nat.lt_pow_two_of_testBit _ fun i hi => ?_
      rw [plus_bit h2.2.2.2, Nat.testBit_lt_two_pow (Nat.lt_of_lt_of_le h2.2.2.1 (Nat.pow_le_pow_right (by omega) hi))]
      have : ¬ t = i := by omega
      simp [this]
theorem holding_lt {n F : Nat} (hF : F < 2 ^ (2 ^ n)) (t : Nat) (ht : t ≤ n) : holding n F t < 2 ^ (2 ^ n) := fam_lt fun m hm => holding_bits hF t ht m hm
theorem holding_testBit {n F : Nat} (hF : F < 2 ^ (2 ^ n)) : ∀ t, t ≤ n → ∀ m, m < 2 ^ n →
    ((holding n F t).testBit m = true ↔ ∃ m', F.testBit m' = true ∧ (∀ i, i < t → m'.testBit i = true → m.testBit i = true) ∧ ∀ i, t ≤ i → m'.testBit i = m.testBit i)
  | 0, _, m, hm => by
    show F.testBit m = true ↔ _
    constructor
    · intro h
      exact ⟨m, h, fun i hi => absurd hi (Nat.not_lt_zero i), fun _ _ => rfl⟩
    · rintro ⟨m', h2, _, h3⟩
      have e : m' = m := Nat.eq_of_testBit_eq fun i => h3 i (Nat.zero_le _)
      rw [← e]; exact h2
  | t + 1, ht, m, hm => by
    have ih := holding_testBit hF t (by omega)
    show (holding n F t ||| (holding n F t &&& famW t (n - (t + 1))) * 2 ^ (2 ^ t)).testBit m = true ↔ _
    rw [Nat.testBit_or, Bool.or_eq_true, one_bit (by omega) hm, ih m hm]
    constructor
    · rintro (⟨m', h2, h3, h4⟩ | ⟨h1, h⟩)
      · exact ⟨m', h2, fun i hi hb => by
          by_cases e : i = t
          · subst e; rw [← h4 i (Nat.le_refl _)]; exact hb
          · exact h3 i (by omega) hb, fun i hi => h4 i (by omega)⟩
      · obtain ⟨_, hb⟩ := minus_bit h1
        obtain ⟨m', h2, h3, h4⟩ := (ih (m - 2 ^ t) (Nat.lt_of_le_of_lt (Nat.sub_le _ _) hm)).mp h
        refine ⟨m', h2, fun i hi hc => ?_, fun i hi => ?_⟩
        · by_cases e : i = t
          · subst e; exact h1
          · have := h3 i (by omega) hc
            rw [hb] at this
            simp only [Bool.and_eq_true] at this
            exact this.1
        · have e : ¬ t = i := by omega
          rw [h4 i (by omega), hb]
          simp [e]
    · rintro ⟨m', h2, h3, h4⟩
      by_cases hb : m'.testBit t = m.testBit t
      · refine .inl ⟨m', h2, fun i hi hc => h3 i (by omega) hc, fun i hi => ?_⟩
        by_cases e : i = t
        · subst e; exact hb
        · exact h4 i (by omega)
      · have hm1 : m.testBit t = true := by
          cases q : m.testBit t with
          | true => rfl
          | false =>
            cases q2 : m'.testBit t with
            | false => rw [q, q2] at hb; exact absurd rfl hb
            | true => rw [h3 t (by omega) q2] at q; cases q
        have hm0 : m'.testBit t = false := by
          cases q : m'.testBit t with
          | false => rfl
          | true => exact absurd (q.trans hm1.symm) hb
        obtain ⟨_, hs⟩ := minus_bit hm1
        refine .inr ⟨hm1, (ih (m - 2 ^ t) (Nat.lt_of_le_of_lt (Nat.sub_le _ _) hm)).mpr ⟨m', h2, fun i hi hc => ?_, fun i hi => ?_⟩⟩
        · rw [hs, h3 i (by omega) hc]
          have e : ¬ t = i := by omega
          simp [e]
        · rw [hs]
          by_cases e : t = i
          · subst e; simp [hm0]
          · rw [h4 i (by omega)]; simp [e]
theorem holding_all {n F m : Nat} (hF : F < 2 ^ (2 ^ n)) (hm : m < 2 ^ n) : (holding n F n).testBit m = true ↔ ∃ m', F.testBit m' = true ∧ ∀ i, m'.testBit i = true → m.testBit i = true := by
  have lt : ∀ m', F.testBit m' = true → m' < 2 ^ n := fun m' h => holding_bits hF 0 (Nat.zero_le _) m' h
  rw [holding_testBit hF n (Nat.le_refl _) m hm]
  constructor
  · rintro ⟨m', h2, h3, h4⟩
    refine ⟨m', h2, fun i hi => ?_⟩
    by_cases q : i < n
    · exact h3 i q hi
    · rw [← h4 i (by omega)]; exact hi
  · rintro ⟨m', h2, h3⟩
    refine ⟨m', h2, fun i _ hi => h3 i hi, fun i hi => ?_⟩
    rw [Nat.testBit_lt_two_pow (Nat.lt_of_lt_of_le (lt m' h2) (Nat.pow_le_pow_right (by omega) (by omega))), Nat.testBit_lt_two_pow (Nat.lt_of_lt_of_le hm (Nat.pow_le_pow_right (by omega) (by omega)))]
/-! ### rows none of which holds another -/
/-- the family of the rows -/
def famOf (masks : List Nat) : Nat := masks.foldl (fun F m => F ||| 2 ^ m) 0
theorem famOf_testBit {masks : List Nat} {m : Nat} : (famOf masks).testBit m = true ↔ m ∈ masks := by
  unfold famOf
  rw [foldl_or_testBit (fun m => m) m]
  simp
theorem famOf_lt {n : Nat} {masks : List Nat} (h : ∀ m ∈ masks, m < 2 ^ n) : famOf masks < 2 ^ (2 ^ n) := fam_lt fun m hm => h m (famOf_testBit.mp hm)
theorem sub_mask {s t : List Nat} (hs : s.Nodup) (ht : t.Nodup) : (∀ i, (maskOf s).testBit i = true → (maskOf t).testBit i = true) ↔ ∀ x ∈ s, x ∈ t := by
  constructor
  · intro h x hx
    have := h x (by rw [mask_testBit hs]; exact decide_eq_true hx)
    rw [mask_testBit ht] at this
    exact of_decide_eq_true this
  · intro h i hi
    rw [mask_testBit hs] at hi
    rw [mask_testBit ht]
    exact decide_eq_true (h i (of_decide_eq_true hi))
theorem mask_inj {s t : List Nat} (hs : s.Pairwise (· < ·)) (ht : t.Pairwise (· < ·)) (h : maskOf s = maskOf t) : s = t := rising_ext hs ht fun x =>
  ⟨(sub_mask (up_nodup hs) (up_nodup ht)).mp (fun i hi => by rw [← h]; exact hi) x, (sub_mask (up_nodup ht) (up_nodup hs)).mp (fun i hi => by rw [h]; exact hi) x⟩
/-- no row twice, none within another -/
def ApartRows (sets : List (List Nat)) : Prop := sets.Nodup ∧ ∀ s ∈ sets, ∀ t ∈ sets, (∀ x ∈ s, x ∈ t) → s = t
theorem masks_nodup {sets : List (List Nat)} (hu : ∀ s ∈ sets, s.Pairwise (· < ·)) : (sets.map maskOf).Nodup ↔ sets.Nodup := by
  constructor
  · intro h
    induction sets with
    | nil => exact List.nodup_nil
    | cons s r ih =>
      rw [List.map_cons, List.nodup_cons] at h
      refine List.nodup_cons.mpr ⟨fun hs => h.1 (List.mem_map.mpr ⟨s, hs, rfl⟩), ih (fun t ht => hu t (List.mem_cons_of_mem _ ht)) h.2⟩
  · exact fun h => nodup_map (fun a ha b hb e => mask_inj (hu a ha) (hu b hb) e) h
theorem apart_iff {n : Nat} {sets : List (List Nat)} (ok : SetsOk n sets) : famOf (sets.map maskOf) &&& oneMore n (holding n (famOf (sets.map maskOf)) n) n = 0 ↔ ∀ s ∈ sets, ∀ t ∈ sets, (∀ x ∈ s, x ∈ t) → s = t := by
  have ml : ∀ m ∈ sets.map maskOf, m < 2 ^ n := fun m hm => by
    obtain ⟨s, hs, rfl⟩ := List.mem_map.mp hm
    exact mask_lt (up_nodup (ok.up s hs)) (ok.lt s hs)
  have hF := famOf_lt ml
  have bit : ∀ m, (famOf (sets.map maskOf)).testBit m = true ↔ ∃ s ∈ sets, maskOf s = m := fun m => by rw [famOf_testBit, List.mem_map]
  constructor
  · intro h s hs t ht hst
    by_cases e : s = t
    · exact e
    · exfalso
      -- a number of t that s lacks
      have hx : ∃ x ∈ t, x ∉ s := by
        by_cases q : ∃ x ∈ t, x ∉ s
        · exact q
        · refine absurd (rising_ext (ok.up s hs) (ok.up t ht) fun x => ⟨hst x, fun hx => ?_⟩) e
          by_cases hxs : x ∈ s
          · exact hxs
          · exact absurd ⟨x, hx, hxs⟩ q
      obtain ⟨x, hx, hxs⟩ := hx
      have hxn := ok.lt t ht x hx
      have ns := up_nodup (ok.up s hs)
      have nt := up_nodup (ok.up t ht)
      have htm := mask_lt nt (ok.lt t ht)
      have hb : (maskOf t).testBit x = true := by rw [mask_testBit nt]; exact decide_eq_true hx
      obtain ⟨_, hs2⟩ := minus_bit hb
      have h1 : (oneMore n (holding n (famOf (sets.map maskOf)) n) n).testBit (maskOf t) = true := (oneMore_testBit n (Nat.le_refl _) _ htm).mpr ⟨x, hxn, hb, (holding_all hF (Nat.lt_of_le_of_lt (Nat.sub_le _ _) htm)).mpr ⟨maskOf s, (bit _).mpr ⟨s, hs, rfl⟩, fun i hi => by
        rw [mask_testBit ns] at hi
        have hi' := of_decide_eq_true hi
        have e2 : ¬ x = i := fun z => hxs (z ▸ hi')
        rw [hs2, mask_testBit nt, decide_eq_true (hst i hi')]
        simp [e2]⟩⟩
      have h2 : (famOf (sets.map maskOf) &&& oneMore n (holding n (famOf (sets.map maskOf)) n) n).testBit (maskOf t) = true := by
        rw [Nat.testBit_and, h1, (bit _).mpr ⟨t, ht, rfl⟩]
        rfl
      rw [h, Nat.zero_testBit] at h2
      cases h2
  · intro h
    refine Nat.eq_of_testBit_eq fun m => ?_
    rw [Nat.zero_testBit]
    cases q : (famOf (sets.map maskOf) &&& oneMore n (holding n (famOf (sets.map maskOf)) n) n).testBit m with
    | false => rfl
    | true =>
      exfalso
      rw [Nat.testBit_and, Bool.and_eq_true] at q
      obtain ⟨t, ht, rfl⟩ := (bit m).mp q.1
      have nt := up_nodup (ok.up t ht)
      have htm := mask_lt nt (ok.lt t ht)
      obtain ⟨k, hk, hb, hh⟩ := (oneMore_testBit n (Nat.le_refl _) _ htm).mp q.2
      obtain ⟨_, hs2⟩ := minus_bit hb
      obtain ⟨m', h1, h2⟩ := (holding_all hF (Nat.lt_of_le_of_lt (Nat.sub_le _ _) htm)).mp hh
      obtain ⟨s, hs, rfl⟩ := (bit m').mp h1
      have ns := up_nodup (ok.up s hs)
      have hst : ∀ x ∈ s, x ∈ t := (sub_mask ns nt).mp fun i hi => by
        have := h2 i hi
        rw [hs2, Bool.and_eq_true] at this
        exact this.1
      have e := h s hs t ht hst
      subst e
      have := h2 k hb
      rw [hs2] at this
      simp at this
end Mb

set_option Elab.async false
set_option linter.all false
set_option maxRecDepth 100000
/-! M4: least hitting sets of rows side by side; of all parts of one size. -/
namespace Mb
theorem filter_len {p : Nat → Bool} : ∀ l : List Nat, (l.filter p).length + (l.filter fun x => !p x).length = l.length
  | [] => rfl
  | a :: l => by
    have ih := filter_len (p := p) l
    rw [List.filter_cons, List.filter_cons]
    cases h : p a <;> simp <;> omega
/-- all rising rows of k numbers out of ns -/
def IsPart (ns : List Nat) (k : Nat) (l : List Nat) : Prop := l.Sublist ns ∧ l.length = k
theorem sub_take {ns : List Nat} {k : Nat} (h : k ≤ ns.length) : IsPart ns k (ns.take k) := ⟨List.take_sublist _ _, by rw [List.length_take]; omega⟩
/-- rows that are just the parts of one size -/
structure AllParts (ns : List Nat) (k : Nat) (rows : List (List Nat)) : Prop where
  mem : ∀ l, l ∈ rows ↔ IsPart ns k l
theorem parts_hits {ns : List Nat} {k : Nat} {rows : List (List Nat)} (hu : ns.Pairwise (· < ·)) (P : AllParts ns k rows) (l : List Nat) : Hits rows l ↔ (ns.filter fun x => !decide (x ∈ l)).length < k := by
  constructor
  · intro h
    by_cases q : (ns.filter fun x => !decide (x ∈ l)).length < k
    · exact q
    · exfalso
      have hs : IsPart ns k ((ns.filter fun x => !decide (x ∈ l)).take k) := ⟨(List.take_sublist _ _).trans List.filter_sublist, by rw [List.length_take]; omega⟩
      obtain ⟨x, h1, h2⟩ := h _ ((P.mem _).mpr hs)
      have := (List.mem_filter.mp (List.mem_of_mem_take h1)).2
      simp [h2] at this
  · intro h s hs
    obtain ⟨h1, h2⟩ := (P.mem s).mp hs
    by_cases q : ∃ x ∈ s, x ∈ l
    · exact q
    · exfalso
      have nd : s.Nodup := (up_nodup hu).sublist h1
      have := nodup_le nd (m := ns.filter fun x => !decide (x ∈ l)) fun x hx => List.mem_filter.mpr ⟨h1.subset hx, by
        have : x ∉ l := fun hl => q ⟨x, hx, hl⟩
        simp [this]⟩
      omega
theorem sub_eq {ns : List Nat} {l : List Nat} (hu : ns.Pairwise (· < ·)) (h1 : l.Pairwise (· < ·)) (h2 : ∀ x ∈ l, x ∈ ns) : l = ns.filter fun x => decide (x ∈ l) := rising_ext h1 (hu.filter _) fun x => by
  rw [List.mem_filter, decide_eq_true_eq]
  exact ⟨fun q => ⟨h2 x q, q⟩, fun q => q.2⟩
theorem minHit_in {rows : List (List Nat)} {l : List Nat} (h : MinHit rows l) : ∀ x ∈ l, ∃ s ∈ rows, x ∈ s := fun x hx => by
  by_cases q : ∃ s ∈ rows, x ∈ s
  · exact q
  · refine absurd (fun s hs => ?_) (h.2.2 x hx)
    obtain ⟨n, h1, h2⟩ := h.2.1 s hs
    exact ⟨n, h1, List.mem_filter.mpr ⟨h2, decide_eq_true (fun e : n = x => q ⟨s, hs, e ▸ h1⟩)⟩⟩
/-- all parts of k numbers out of n: just the parts of n - k + 1 numbers hit all of them and are least -/
theorem parts_min {ns : List Nat} {k : Nat} {rows : List (List Nat)} (hu : ns.Pairwise (· < ·)) (h0 : 0 < k) (hk : k ≤ ns.length) (P : AllParts ns k rows) (l : List Nat) : MinHit rows l ↔ IsPart ns (ns.length - k + 1) l := by
  have cnt : ∀ l : List Nat, l.Pairwise (· < ·) → (∀ x ∈ l, x ∈ ns) → l.length + (ns.filter fun x => !decide (x ∈ l)).length = ns.length := fun l h1 h2 => by
    have e := sub_eq hu h1 h2
    have := filter_len (p := fun x => decide (x ∈ l)) ns
    rw [← e] at this
    exact this
  constructor
  · intro h
    have hin : ∀ x ∈ l, x ∈ ns := fun x hx => by
      obtain ⟨s, hs, hxs⟩ := minHit_in h x hx
      exact ((P.mem s).mp hs).1.subset hxs
    refine ⟨by rw [sub_eq hu h.1 hin]; exact List.filter_sublist, ?_⟩
    have c := cnt l h.1 hin
    have hh := (parts_hits hu P l).mp h.2.1
    by_cases q : l.length = ns.length - k + 1
    · exact q
    · exfalso
      have hpos : 0 < l.length := by omega
      have hx0 : l[0] ∈ l := List.getElem_mem hpos
      refine h.2.2 l[0] hx0 ((parts_hits hu P _).mpr ?_)
      have c2 := cnt (l.filter fun m => decide (m ≠ l[0])) (h.1.filter _) fun x hx => hin x (List.mem_filter.mp hx).1
      have c3 := filter_len (p := fun m => decide (m ≠ l[0])) l
      have c4 : (l.filter fun x => !decide (x ≠ l[0])).length ≤ 1 := by
        have := nodup_le (l := l.filter fun x => !decide (x ≠ l[0])) (m := [l[0]]) ((up_nodup h.1).filter _) fun x hx => by
          have := (List.mem_filter.mp hx).2
          simp at this
          simp [this]
        simpa using this
      omega
  · rintro ⟨h1, h2⟩
    have hs : l.Pairwise (· < ·) := hu.sublist h1
    have hin : ∀ x ∈ l, x ∈ ns := fun x hx => h1.subset hx
    have c := cnt l hs hin
    refine ⟨hs, (parts_hits hu P l).mpr (by omega), fun x hx hc => ?_⟩
    have hh := (parts_hits hu P _).mp hc
    have c2 := cnt (l.filter fun m => decide (m ≠ x)) (hs.filter _) fun y hy => hin y (List.mem_filter.mp hy).1
    have c3 := filter_len (p := fun m => decide (m ≠ x)) l
    have c4 : 1 ≤ (l.filter fun m => !decide (m ≠ x)).length := List.length_pos_of_mem (List.mem_filter.mpr ⟨hx, by simp⟩)
    omega
/-! ### side by side -/
theorem hits_append (A B : List (List Nat)) (l : List Nat) : Hits (A ++ B) l ↔ Hits A l ∧ Hits B l := by
  unfold Hits
  constructor
  · exact fun h => ⟨fun s hs => h s (by simp [hs]), fun s hs => h s (by simp [hs])⟩
  · rintro ⟨h1, h2⟩ s hs
    rcases List.mem_append.mp hs with q | q
    · exact h1 s q
    · exact h2 s q
theorem hits_on {A : List (List Nat)} {l m : List Nat} (h : ∀ s ∈ A, ∀ x ∈ s, x ∈ l ↔ x ∈ m) : Hits A l ↔ Hits A m := by
  unfold Hits
  constructor
  · exact fun q s hs => by
      obtain ⟨x, h1, h2⟩ := q s hs
      exact ⟨x, h1, (h s hs x h1).mp h2⟩
  · exact fun q s hs => by
      obtain ⟨x, h1, h2⟩ := q s hs
      exact ⟨x, h1, (h s hs x h1).mpr h2⟩
/-- rows over numbers of U, rows over none of U: the least hitting sets are those of both together -/
theorem side_min {A B : List (List Nat)} (U : Nat → Bool) (hA : ∀ s ∈ A, ∀ x ∈ s, U x = true) (hB : ∀ s ∈ B, ∀ x ∈ s, U x = false) {l : List Nat} (hu : l.Pairwise (· < ·)) :
    MinHit (A ++ B) l ↔ MinHit A (l.filter U) ∧ MinHit B (l.filter fun x => !U x) := by
  have onA : ∀ l : List Nat, Hits A l ↔ Hits A (l.filter U) := fun l => hits_on fun s hs x hx => by rw [List.mem_filter]; simp [hA s hs x hx]
  have onB : ∀ l : List Nat, Hits B l ↔ Hits B (l.filter fun x => !U x) := fun l => hits_on fun s hs x hx => by rw [List.mem_filter]; simp [hB s hs x hx]
  have drop : ∀ (x : Nat), (l.filter fun m => decide (m ≠ x)).filter U = (l.filter U).filter fun m => decide (m ≠ x) := fun x => by rw [List.filter_filter, List.filter_filter]; congr 1; funext y; rw [Bool.and_comm]
  have drop2 : ∀ (x : Nat), (l.filter fun m => decide (m ≠ x)).filter (fun x => !U x) = (l.filter fun x => !U x).filter fun m => decide (m ≠ x) := fun x => by rw [List.filter_filter, List.filter_filter]; congr 1; funext y; rw [Bool.and_comm]
  have same : ∀ (p : Nat → Bool) (x : Nat), p x = false → (l.filter p).filter (fun m => decide (m ≠ x)) = l.filter p := fun p x hx => by
    rw [List.filter_eq_self]
    intro y hy
    have := (List.mem_filter.mp hy).2
    exact decide_eq_true fun e => by rw [e, hx] at this; cases this
  unfold MinHit
  rw [hits_append, onA l, onB l]
  constructor
  · rintro ⟨h1, ⟨h2, h3⟩, h4⟩
    refine ⟨⟨h1.filter _, h2, fun x hx hc => ?_⟩, h1.filter _, h3, fun x hx hc => ?_⟩
    · obtain ⟨hxl, hxU⟩ := List.mem_filter.mp hx
      refine h4 x hxl ((hits_append _ _ _).mpr ⟨(onA _).mpr (by rw [drop]; exact hc), (onB _).mpr ?_⟩)
      rw [drop2, same (fun x => !U x) x (by simp [hxU])]
      exact h3
    · obtain ⟨hxl, hxU⟩ := List.mem_filter.mp hx
      refine h4 x hxl ((hits_append _ _ _).mpr ⟨(onA _).mpr ?_, (onB _).mpr (by rw [drop2]; exact hc)⟩)
      rw [drop, same U x (by simpa using hxU)]
      exact h2
  · rintro ⟨⟨_, h2, h4⟩, _, h3, h5⟩
    refine ⟨hu, ⟨h2, h3⟩, fun x hx hc => ?_⟩
    have hc2 := (hits_append _ _ _).mp hc
    cases q : U x with
    | true => exact h4 x (List.mem_filter.mpr ⟨hx, q⟩) (by rw [← drop]; exact (onA _).mp hc2.1)
    | false => exact h5 x (List.mem_filter.mpr ⟨hx, by simp [q]⟩) (by rw [← drop2]; exact (onB _).mp hc2.2)
end Mb

set_option Elab.async false
set_option linter.all false
set_option maxRecDepth 100000
set_option maxHeartbeats 4000000
/-! DL9: len(set(xs)) of ints, is / is not of truth values, min and max of two ints, calls with names alone. -/
namespace DL
open PySem PySem.Spec PyProof.Rows L2

/-! ### len(set(xs)) -/
def distN (ns : List Int) : Nat := (firstMet (fun i => ns.getD i 0) ns.length).length
theorem vals_ints : ∀ {ms : List Int} {zs : List Value}, Vals (ms.map V.int) zs → IntsAre zs ms
  | [], _, .nil => .nil
  | m :: ms, _, .cons a b => by
    obtain ⟨t, rfl⟩ := a
    exact .cons m t (vals_ints b)
def tLenSetD (K : PySem.W.Frag) (ta : TE) : TE := fun σ H Q => ta σ H fun x H1 => ∃ (l : Addr) (ns : List Int), x = .ref l ∧ SqL K H1 l (ns.map V.int) ∧ ns.length ≤ 4000 ∧ Q (.int (distN ns : Nat)) H1
theorem pe_lenSetD {K : PySem.W.Frag} {X : Cx} {a : Expr} {ta : TE} {p p2 q pos : Pos} (hg : Gl X "len") (hm : X.mg "len" = none) (hg2 : Gl X "set") (hm2 : X.mg "set" = none) (ha : PE X a ta) (hc : X.calm = true) (hK : X.K = K)
    (sa : starEach [a] X.env = (false, eval a X.env) :: starEach [] X.env) : PE X (.Call (.Name "len" p) [.Call (.Name "set" p2) [a] [] q] [] pos) (tLenSetD K ta) := by
  subst hK
  refine ⟨fun pins s σ H Q I h => ?_⟩
  refine Call_ (ld_blt I hg hm PySem.boot_len ?_)
  refine callWith_builtin1 (args_cons ?_ rfl) rfl rfl
  refine Call_ (ld_blt I hg2 hm2 boot_set ?_)
  refine callWith_type1 (args_cons (thn (ha.run pins s σ H _ I h) fun v s1 ⟨x, H1, I1, r1, q1⟩ => args_nil ?_) sa) sa rfl
  obtain ⟨l, ns, rfl, hq, hl, q1⟩ := q1
  cases r1
  obtain ⟨zs, rz, pl, _⟩ := I1.list hq
  have el : zs.toArray.size = ns.length := by rw [List.size_toArray, ← rz.length, List.length_map]
  refine call_set_list (I1.ok.hd hc) pl.isList (by simpa using vals_ints rz) (by rw [el]; unfold scanBound; omega) fun h' tk hS hk => ?_
  refine args_nil ?_
  rw [el] at hS
  have hb : (firstMet (fun i => ns.getD i 0) ns.length).length ≤ ns.length := firstMet_length_le _ _
  obtain ⟨o, es, ep, t, ho, hex, hd, _, _, _, hf, hn⟩ := hS
  have I2 : Inv X pins σ H1 { s1 with heap := h', toks := tk } := I1.kept fun b o e => hk b o (Heap.lt_size e) e
  exact call_len_set ho hex hd hf (by rw [hn] <;> omega) ⟨.int (distN ns : Nat), H1, I2.tok _, ⟨_, by rw [hn]; rfl⟩, q1⟩
def τLenSet (a : DT) : DT := fun x ρ Q => a x ρ fun s => ∃ ns : List Int, s.d = .list (ns.map PyData.int) ∧ ns.length ≤ 4000 ∧ Q (.dat (.int (distN ns : Nat)))
section
variable {K : PySem.W.Frag} {mg : Str → Option Value} {W : WX} {X : Cx} {pos p p2 q : Pos} {e : Expr} {te : TE} {τe : DT}
theorem de_lenSet (hg : Gl X "len") (hm : X.mg "len" = none) (hg2 : Gl X "set") (hm2 : X.mg "set" = none) (a : DE K mg W X e te τe) (hc : X.calm = true := by rfl) (hK : X.K = K := by rfl)
    (sa : starEach [e] X.env = (false, eval e X.env) :: starEach [] X.env := by rfl) : DE K mg W X (.Call (.Name "len" p) [.Call (.Name "set" p2) [e] [] q] [] pos) (tLenSetD K te) (τLenSet τe) := by
  refine ⟨pe_lenSetD hg hm hg2 hm2 a.pe hc hK sa, fun Z G0 H0 x hx σ ρ G H Q Qd R h k => ?_⟩
  refine a.sem Z G0 H0 x hx σ ρ G H _ _ R h fun s v G1 H1 g1 ⟨ns, es, hl, h1⟩ => ?_
  obtain ⟨l, xs, rfl, q1, q2⟩ := g1.sv.list g1.ok es
  rw [q2.ints] at q1
  exact ⟨l, ns, rfl, q1, hl, k _ _ G1 H1 (.after g1.ext (.here g1.ok (.int _))) h1⟩
end
theorem dedup_len : ∀ (l acc : List Int), (l.foldl step_dedup acc).length ≤ acc.length + l.length ∧ ((l.foldl step_dedup acc).length = acc.length + l.length ↔ l.Nodup ∧ ∀ x ∈ l, x ∉ acc)
  | [], acc => by simp
  | x :: l, acc => by
    rw [List.foldl_cons]
    have e : step_dedup acc x = if acc.any (· == x) then acc else acc ++ [x] := rfl
    cases h : acc.any (· == x) with
    | true =>
      rw [e, h, if_pos rfl]
      have ih := dedup_len l acc
      have hx : x ∈ acc := by
        obtain ⟨y, h1, h2⟩ := List.any_eq_true.mp h
        have e2 : y = x := eq_of_beq h2
        exact e2 ▸ h1
      rw [List.length_cons]
      refine ⟨by omega, fun h2 => by omega, fun h2 => absurd hx (h2.2 x List.mem_cons_self)⟩
    | false =>
      rw [e, h, if_neg (by simp)]
      have ih := dedup_len l (acc ++ [x])
      rw [List.length_append, List.length_singleton] at ih
      have hx : x ∉ acc := fun hm => by
        have : acc.any (· == x) = true := List.any_eq_true.mpr ⟨x, hm, by simp⟩
        rw [h] at this; cases this
      rw [List.length_cons, List.nodup_cons]
      refine ⟨by omega, ?_⟩
      rw [show acc.length + (l.length + 1) = acc.length + 1 + l.length by omega, ih.2]
      constructor
      · rintro ⟨h1, h2⟩
        exact ⟨⟨fun hm => h2 x hm (by simp), h1⟩, fun y hy => by
          rcases List.mem_cons.mp hy with rfl | hy
          · exact hx
          · exact fun hm => h2 y hy (by simp [hm])⟩
      · rintro ⟨⟨h1, h2⟩, h3⟩
        exact ⟨h2, fun y hy hm => by
          rcases List.mem_append.mp hm with q | q
          · exact h3 y (List.mem_cons_of_mem _ hy) q
          · rw [List.mem_singleton.mp q] at hy; exact h1 hy⟩
theorem dist_lt {ns : List Int} : distN ns < ns.length ↔ ¬ ns.Nodup := by
  unfold distN firstMet
  have e : (List.range ns.length).map (fun i => ns.getD i 0) = ns := by
    apply List.ext_getElem?
    intro i
    rw [List.getElem?_map]
    by_cases h : i < ns.length
    · rw [List.getElem?_range h, List.getElem?_eq_getElem h]
      simp [List.getD_eq_getElem?_getD, h]
    · rw [List.getElem?_eq_none (by rw [List.length_range]; omega), List.getElem?_eq_none (by omega)]
      rfl
  rw [e]
  have h := dedup_len ns []
  rw [List.length_nil, Nat.zero_add] at h
  have h2 : (List.foldl step_dedup [] ns).length = ns.length ↔ ns.Nodup := by
    rw [h.2]
    exact ⟨fun q => q.1, fun q => ⟨q, fun _ _ z => by cases z⟩⟩
  constructor
  · exact fun h3 h4 => by have := h2.mpr h4; omega
  · exact fun h3 => by
      have h5 : ¬ (List.foldl step_dedup [] ns).length = ns.length := fun z => h3 (h2.mp z)
      omega

/-! ### is, is not of truth values -/
def bIsB : S → S → (S → Prop) → Prop := fun s t Q => match s, t with
  | .dat (.bool a), .dat (.bool b) => Q (.dat (.bool (decide (a = b))))
  | _, _ => False
def bNotB : S → S → (S → Prop) → Prop := fun s t Q => match s, t with
  | .dat (.bool a), .dat (.bool b) => Q (.dat (.bool (!decide (a = b))))
  | _, _ => False
theorem lift_isB {K : PySem.W.Frag} : Lift2 K rIsB bIsB := by
  intro Z G H v u s t Q Qd o h1 h2 b k
  unfold bIsB at b
  split at b
  · exact ⟨_, _, h1.bl, h2.bl, k _ _ G H (.here o (.bl _)) b⟩
  · exact b.elim
theorem lift_notB {K : PySem.W.Frag} : Lift2 K (fun x y H Q => ∃ a b, x = .bl a ∧ y = .bl b ∧ Q (.bl (!decide (a = b))) H) bNotB := by
  intro Z G H v u s t Q Qd o h1 h2 b k
  unfold bNotB at b
  split at b
  · exact ⟨_, _, h1.bl, h2.bl, k _ _ G H (.here o (.bl _)) b⟩
  · exact b.elim

/-! ### min, max of two ints -/
def bMin2 : List S → (S → Prop) → Prop := fun ss Q => match ss with
  | [.dat (.int i), .dat (.int j)] => Q (.dat (.int (if j < i then j else i)))
  | _ => False
def bMax2 : List S → (S → Prop) → Prop := fun ss Q => match ss with
  | [.dat (.int i), .dat (.int j)] => Q (.dat (.int (if j > i then j else i)))
  | _ => False
theorem lift_min2 {K : PySem.W.Frag} : LiftA K (fun xs H Q => ∃ i j, xs = [.int i, .int j] ∧ Q (.int (if j < i then j else i)) H) bMin2 := by
  intro Z G H vs ss Q Qd o h b k
  unfold bMin2 at b
  split at b
  · obtain ⟨v, u, rfl, q1, q2⟩ := svs2 h
    exact ⟨_, _, by rw [q1.int, q2.int], k _ _ G H (.here o (.int _)) b⟩
  · exact b.elim
theorem lift_max2 {K : PySem.W.Frag} : LiftA K (fun xs H Q => ∃ i j, xs = [.int i, .int j] ∧ Q (.int (if j > i then j else i)) H) bMax2 := by
  intro Z G H vs ss Q Qd o h b k
  unfold bMax2 at b
  split at b
  · obtain ⟨v, u, rfl, q1, q2⟩ := svs2 h
    exact ⟨_, _, by rw [q1.int, q2.int], k _ _ G H (.here o (.int _)) b⟩
  · exact b.elim

/-! ### calls with names alone, in any order -/
/-- a def whose parameters are given by name, in the order ks -/
structure FdG (P : Program) (w : World) (K : PySem.W.Frag) (mg : Str → Option Value) (base : Heap) (nm : Str) (k : Nat) (ps ks : List Str) (g : List Value → List Value → List Value) (gV : List V → List V → List V) (sp : DSp) : Prop where
  ex : ∃ (f : Addr) (fd : FuncData), mg nm = some (.ref f) ∧ PySem.W.keepIn K (.ref f) = true ∧ KBinds K fd ps ks g gV ∧ FnOk P w K mg base (L2.CX P w) k f fd ps (spD K mg sp)
structure DK (K : PySem.W.Frag) (mg : Str → Option Value) (W : WX) (X : Cx) (kws : List Keyword) (t : TA) (τ : DTA) : Prop where
  pe : PK X kws t
  sem : SemA K mg W t τ
section
variable {K : PySem.W.Frag} {mg : Str → Option Value} {W : WX} {X : Cx} {pos p kp : Pos} {nm : Str} {k : Nat} {ps ks : List Str} {g : List Value → List Value → List Value} {gV : List V → List V → List V} {sp : DSp} {kws : List Keyword} {ta : TA} {υ : DTA}
theorem dk_nil : DK K mg W X [] tNil τNil := ⟨pk_nil, (da_nil (X := X)).sem⟩
theorem sem_cons {t : TE} {u : TA} {τ : DT} {υ : DTA} (a : Sem K mg W t τ) (b : SemA K mg W u υ) : SemA K mg W (tCons t u) (τCons τ υ) := by
  intro Z G0 H0 x hx σ ρ G H Q Qd r h k
  refine a Z G0 H0 x hx σ ρ G H _ _ r h fun s v G1 H1 g h1 => ?_
  obtain ⟨G2, g2, _⟩ := g.fz
  refine b Z G0 H0 x hx σ ρ G2 H1 _ _ (r.mono g2.ext g2.ok) h1 fun ss vs G3 H3 e3 o3 v3 q3 => ?_
  exact k (s.fz :: ss) (v :: vs) G3 H3 (g2.ext.trans e3) o3 ⟨⟨g2.sv.mono e3, (consQ_fz q3).1⟩, v3⟩ (consQ_fz q3).2
theorem dk_cons {e : Expr} {t : TE} {τ : DT} {y : Option Str} (a : DE K mg W X e t τ) (b : DK K mg W X kws ta υ) : DK K mg W X (⟨y, e, kp⟩ :: kws) (tCons t ta) (τCons τ υ) := ⟨pk_cons a.pe b.pe, sem_cons a.sem b.sem⟩
def τCallN (sp : DSp) (perm : List S → List S) (a : DTA) : DT := fun _ ρ Q => a x0 ρ fun ss => callQ sp (perm ss) x0 Q
theorem de_callN (perm : List S → List S) (F : FdG X.prog X.w K mg X.base nm k ps ks g gV sp) (hr : Room k X.A) (hg : Gl X nm) (a : DK K mg WF X kws ta υ)
    (hpe : ∀ (f : Addr) (fd : FuncData), mg nm = some (.ref f) → PySem.W.keepIn K (.ref f) = true → KBinds K fd ps ks g gV → FnOk X.prog X.w K mg X.base (L2.CX X.prog X.w) k f fd ps (spD K mg sp) → PK X kws ta → PE X (.Call (.Name nm p) [] kws pos) (tCallK (spD K mg sp) gV E0 tNil ta))
    (hp : ∀ (Z : Rg) (G H : Hp) (vs : List V) (ss : List S), SVs Z K G H vs ss → SVs Z K G H (gV [] vs) (perm ss)) (hK : X.K = K := by rfl) (hM : X.mg = mg := by rfl) :
    DE K mg W X (.Call (.Name nm p) [] kws pos) (tCallK (spD K mg sp) gV E0 tNil ta) (τCallN sp perm υ) := by
  subst hK hM
  obtain ⟨f, fd, hm, hk, kb, G⟩ := F.ex
  refine ⟨hpe f fd hm hk kb G a.pe, fun Z G0 H0 x hx σ ρ G H Q Qd R h k => ?_⟩
  refine a.sem Z G0 H0 x0 XOk.no σ ρ G H _ _ R h fun ss vs G1 H1 e1 o1 hv h1 => ?_
  exact call_sp o1 (hp Z G1 H1 vs ss hv) h1 (fun s v G' H' g q => k s v G' H' (.after e1 g) q) fun _ _ _ _ _ _ _ z => z.elim
end
/-! the orders -/
def g1v {α : Type} : List α → List α → List α
  | [], [a] => [a]
  | _, _ => []
/-- three by name: the i-th parameter is given at place a, b, c of the call -/
def g3v {α : Type} (a b c : Nat) : List α → List α → List α
  | [], [x, y, z] => [([x, y, z][a]?).getD x, ([x, y, z][b]?).getD x, ([x, y, z][c]?).getD x]
  | _, _ => []
theorem vals_g3 {a b c : Nat} : ∀ {vs : List V} {us : List Value} {zs : List V} {ws : List Value}, Vals vs us → Vals zs ws → Vals (g3v a b c vs zs) (g3v a b c us ws) := by
  intro vs us zs ws h1 h2
  cases h1 with
  | cons _ _ => exact .nil
  | nil =>
    cases h2 with
    | nil => exact .nil
    | cons x h2 =>
      cases h2 with
      | nil => exact .nil
      | cons y h2 =>
        cases h2 with
        | nil => exact .nil
        | cons z h2 =>
          cases h2 with
          | cons _ _ => exact .nil
          | nil =>
            have one : ∀ i : Nat, RelV (([_, _, _][i]?).getD _) (([_, _, _][i]?).getD _) := fun i => by
              match i with
              | 0 => exact x
              | 1 => exact y
              | 2 => exact z
              | _ + 3 => exact x
            exact .cons (one a) (.cons (one b) (.cons (one c) .nil))
theorem svs_g3 {a b c : Nat} (Z : Rg) {K : PySem.W.Frag} (G H : Hp) (vs : List V) (ss : List S) (h : SVs Z K G H vs ss) : SVs Z K G H (g3v a b c [] vs) (g3v a b c [] ss) := by
  match vs, ss, h with
  | [], [], _ => exact trivial
  | [_], [_], _ => exact trivial
  | [_, _], [_, _], _ => exact trivial
  | [x, y, z], [s, t, u], ⟨h1, h2, h3, _⟩ =>
    have one : ∀ i : Nat, (SV Z K G H (([x, y, z][i]?).getD x) (([s, t, u][i]?).getD s) ∧ (([s, t, u][i]?).getD s).mt = false) := fun i => by
      match i with
      | 0 => exact h1
      | 1 => exact h2
      | 2 => exact h3
      | _ + 3 => exact h1
    exact ⟨one a, one b, one c, trivial⟩
  | _ :: _ :: _ :: _ :: _, _ :: _ :: _ :: _ :: _, _ => exact trivial
end DL

set_option Elab.async false
set_option linter.all false
set_option maxRecDepth 100000
set_option maxHeartbeats 4000000
/-! DL10: raise C(), C an own class of exceptions under ValueError without an own maker. -/
namespace DL
open PySem PySem.Spec PyProof.Rows L2

/-- the bases of ValueError -/
def veB : List Value := [.type "ValueError", .type "Exception", .type "BaseException", .type "object"]
/-- what the written part says of the class at C -/
structure ExcO (K : PySem.W.Frag) (C : Addr) : Prop where
  q : PySem.W.excIn K C veB "ValueError.__new__" = true
  k : PySem.W.keepIn K (.ref C) = true
  e : PySem.W.subIn K (.ref C) (.type "BaseException") = some true
  t : PySem.W.typeIn K (.ref C) = some (.type "type")
/-- C() -/
theorem pmk_own0 {X : Cx} {C : Addr} {x : Str} {p pos : Pos} (T : ExcO X.K C) (gC : X.mg x = some (.ref C)) (hg : Gl X x) (hdb : (x == ("__debug__" : Str)) = false := by decide) : PMk X (.Call (.Name x p) [] [] pos) (fun _ H Q => Q (.ref C) none H) := by
  intro pins s σ H Q I h
  refine wpAny_Call_Name_kw (ld_glob I hg gC ?_ hdb)
  refine PySem.W.callWith_K0 I.kIn T.k ?_
  show wpAny _ _ (call (.ref C) []) _ _ _
  obtain ⟨bm, N, nm, qn, bs, hdct, sn, sub, ab, col, dd, k0, k1, k2, k3, k5, mN, hC, hN, hni, T2⟩ := exc_obj I.kIn T.q
  refine wpAny_call_exc_subT PySem.F.excBase_ValueError T2 hC hN hni (fun h' e hm => ?_) (Nat.zero_le _)
  exact mk_of I hm (raises_own T.e T.t) h (I.hok.gone hm.new)
def τRaise (nm : Str) : DTS := fun x _ _ => x nm []
theorem ds_raise0 {K : PySem.W.Frag} {mg : Str → Option Value} {W : WX} {X : Cx} {C : Addr} {nm : Str} {p pos pos2 : Pos} (hc : X.calm = true) (tk : Takes X W) (T : ExcO K C) (gC : mg nm = some (.ref C)) (hg : Gl X nm) (hdb : (nm == ("__debug__" : Str)) = false := by decide) (hK : X.K = K := by rfl) (hM : X.mg = mg := by rfl) :
    DS K mg W X (.Raise (some (.Call (.Name nm p) [] [] pos)) none pos2) (fun _ σ H => W (.ref C) none σ H) (τRaise nm) := by
  subst hK hM
  refine ⟨ps_raise hc tk (pmk_own0 T gC hg hdb), fun Z G0 H0 x hx E M he σ ρ G H R h => ?_⟩
  exact hx nm [] C none σ G H gC h R.ext R.ok (.inl ⟨rfl, rfl⟩)
/-! xs[::-1] of a list -/
def τRevL (a : DT) : DT := fun x ρ Q => a x ρ fun s => match s.d with
  | .list ds => Q (.own ds.reverse)
  | _ => False
theorem dpAll_rev {K : PySem.W.Frag} {G : Hp} : ∀ {xs : List V} {ds : List D}, DqAll K G xs ds → DqAll K G xs.reverse ds.reverse
  | _, _, .nil => .nil
  | _, _, .cons h1 h2 => by
    rw [List.reverse_cons, List.reverse_cons]
    exact (dpAll_rev h2).append (.cons h1 .nil)
theorem de_revL {K : PySem.W.Frag} {mg : Str → Option Value} {W : WX} {X : Cx} {e : Expr} {te : TE} {τe : DT} {k : Nat} {p1 p2 p3 pos : Pos} (a : DE K mg W X e te τe) (hK : X.K = K := by rfl) :
    DE K mg W X (.Subscript e (.Slice none none (some (.UnaryOp .USub (.Constant (.int 1) k p1) p2)) p3) pos) (L2.tRevL K te) (τRevL τe) := by
  subst hK
  refine ⟨L2.pe_revL a.pe, fun Z G0 H0 x hx σ ρ G H Q Qd R h kk => ?_⟩
  refine a.sem Z G0 H0 x hx σ ρ G H _ _ R h fun s v G1 H1 g1 h1 => ?_
  split at h1
  · rename_i ds e2
    obtain ⟨l, xs, rfl, q1, q2⟩ := g1.sv.list g1.ok e2
    exact ⟨l, xs, rfl, q1, fun p hp => kk _ _ _ _ (.after g1.ext (.newL g1.ok hp (dpAll_rev q2))) h1⟩
  · exact h1.elim
end DL

set_option Elab.async false
set_option linter.all false
set_option maxRecDepth 100000
set_option maxHeartbeats 4000000
/-! DL11: dicts. -/
namespace DL
open PySem PySem.Spec PyProof.Rows L2
open Classical in
/-- kvs with v at the key k -/
noncomputable def dput (kvs : List (D × D)) (k v : D) : List (D × D) := if k ∈ kvs.map Prod.fst then kvs.map (fun p => if p.1 = k then (p.1, v) else p) else kvs ++ [(k, v)]
theorem dput_len (kvs : List (D × D)) (k v : D) : (dput kvs k v).length ≤ kvs.length + 1 := by
  unfold dput
  split
  · rw [List.length_map]; omega
  · rw [List.length_append]; exact Nat.le_refl _
open Classical in
theorem dput_keys (kvs : List (D × D)) (k v : D) : (dput kvs k v).map Prod.fst = if k ∈ kvs.map Prod.fst then kvs.map Prod.fst else kvs.map Prod.fst ++ [k] := by
  unfold dput
  by_cases h : k ∈ kvs.map Prod.fst
  · rw [if_pos h, if_pos h, List.map_map]
    refine List.map_congr_left fun p _ => ?_
    show (if p.1 = k then (p.1, v) else p).1 = p.1
    by_cases e : p.1 = k
    · rw [if_pos e]
    · rw [if_neg e]
  · rw [if_neg h, if_neg h, List.map_append]
    rfl
theorem dput_new {kvs : List (D × D)} {k v : D} (h : k ∉ kvs.map Prod.fst) : dput kvs k v = kvs ++ [(k, v)] := by
  unfold dput
  rw [if_neg h]
section
variable {K : PySem.W.Frag} {G : Hp}
theorem any_iff {κ : Type} [DecidableEq κ] (xs : List (κ × V)) (k : κ) : (xs.any fun kv => decide (kv.1 = k)) = (valV xs k).isSome := valV_any k xs
theorem dqK_snoc {k : Key} {v : V} {d : D} (hd : Dq K G v d) : ∀ {xs : List (Key × V)} {kvs : List (D × D)}, DqK K G xs kvs → DqK K G (xs ++ [(k, v)]) (kvs ++ [(keyD k, d)])
  | _, _, .nil => .cons hd .nil
  | _, _, .cons h1 h2 => .cons h1 (dqK_snoc hd h2)
theorem dqT_snoc {k : List Key} {v : V} {d : D} (hd : Dq K G v d) : ∀ {xs : List (List Key × V)} {kvs : List (D × D)}, DqT K G xs kvs → DqT K G (xs ++ [(k, v)]) (kvs ++ [(.tuple (k.map keyD), d)])
  | _, _, .nil => .cons hd .nil
  | _, _, .cons h1 h2 => .cons h1 (dqT_snoc hd h2)
open Classical in
theorem dqK_rep {k : Key} {v : V} {d : D} (hd : Dq K G v d) : ∀ {xs : List (Key × V)} {kvs : List (D × D)}, DqK K G xs kvs → DqK K G (xs.map fun kv => if kv.1 = k then (kv.1, v) else kv) (kvs.map fun p => if p.1 = keyD k then (p.1, d) else p)
  | _, _, .nil => .nil
  | _, _, .cons (k := j) h1 h2 => by
    rw [List.map_cons, List.map_cons]
    by_cases e : j = k
    · rw [if_pos (show (j, _).1 = k from e), if_pos (show (keyD j, _).1 = keyD k from congrArg keyD e)]
      exact .cons hd (dqK_rep hd h2)
    · rw [if_neg (show ¬ (j, _).1 = k from e), if_neg (show ¬ (keyD j, _).1 = keyD k from fun z => e (keyD_inj z))]
      exact .cons h1 (dqK_rep hd h2)
open Classical in
theorem dqT_rep {k : List Key} {v : V} {d : D} (hd : Dq K G v d) : ∀ {xs : List (List Key × V)} {kvs : List (D × D)}, DqT K G xs kvs → DqT K G (xs.map fun kv => if kv.1 = k then (kv.1, v) else kv) (kvs.map fun p => if p.1 = .tuple (k.map keyD) then (p.1, d) else p)
  | _, _, .nil => .nil
  | _, _, .cons (k := j) h1 h2 => by
    rw [List.map_cons, List.map_cons]
    by_cases e : j = k
    · rw [if_pos (show (j, _).1 = k from e), if_pos (show (PyData.tuple (j.map keyD), _).1 = .tuple (k.map keyD) from by rw [e])]
      exact .cons hd (dqT_rep hd h2)
    · rw [if_neg (show ¬ (j, _).1 = k from e), if_neg (show ¬ (PyData.tuple (j.map keyD), _).1 = .tuple (k.map keyD) from fun z => e (keyDs_inj (PyData.tuple.inj z)))]
      exact .cons h1 (dqT_rep hd h2)
theorem dqK_put {k : Key} {v : V} {d : D} (hd : Dq K G v d) {xs : List (Key × V)} {kvs : List (D × D)} (h : DqK K G xs kvs) : DqK K G (putK xs k v) (dput kvs (keyD k) d) := by
  unfold putK dput
  have e := dqK_in k xs kvs h
  rw [any_iff]
  by_cases q : (valV xs k).isSome = true
  · rw [if_pos q, if_pos (e.mp q)]; exact dqK_rep hd h
  · rw [if_neg q, if_neg (fun z => q (e.mpr z))]; exact dqK_snoc hd h
theorem dqT_put {k : List Key} {v : V} {d : D} (hd : Dq K G v d) {xs : List (List Key × V)} {kvs : List (D × D)} (h : DqT K G xs kvs) : DqT K G (putK xs k v) (dput kvs (.tuple (k.map keyD)) d) := by
  unfold putK dput
  have e := dqT_in k xs kvs h
  rw [any_iff]
  by_cases q : (valV xs k).isSome = true
  · rw [if_pos q, if_pos (e.mp q)]; exact dqT_rep hd h
  · rw [if_neg q, if_neg (fun z => q (e.mpr z))]; exact dqT_snoc hd h
theorem dqK_len : ∀ {xs : List (Key × V)} {kvs : List (D × D)}, DqK K G xs kvs → xs.length = kvs.length := fun h => (dqK_get h).1
theorem dqT_len : ∀ {xs : List (List Key × V)} {kvs : List (D × D)}, DqT K G xs kvs → xs.length = kvs.length := fun h => (dqT_get h).1
end
section
variable {K : PySem.W.Frag} {mg : Str → Option Value} {W : WX} {X : Cx} {pos pos' : Pos} {e f o : Expr} {te tf : TE} {τe τf : DT}
/-! {} -/
theorem Got.newD {Z : Rg} {G H : Hp} {p : Addr} {t : Bool} {u : HO} {kvs : List (D × D)} (o : Ok Z G H) (hp : H p = none) (h : DctOf K G t u kvs) : Got Z K G H G (upd H p u) (.ref p) (.dct t kvs) := by
  obtain ⟨o', e'⟩ := o.newH (u := u) hp
  have gp : G p = none := by
    cases r : G p with
    | none => rfl
    | some w => rw [o.s p w r] at hp; cases hp
  refine ⟨e', o', ⟨p, u, rfl, upd_same, h, gp, fun z => Z.there o.z p z hp⟩, fun _ e => (by cases e), fun _ _ _ l e => ?_⟩
  have e2 : p = l := by injection e
  rw [← e2]; exact hp
def τDNew (t : Bool) : DT := fun _ _ Q => Q (.dct t [])
theorem de_dnewK : DE K mg W X (.Dict [] [] pos) tDNewK (τDNew false) :=
  ⟨pe_dnewK, fun _ _ _ _ _ _ _ G H _ _ r q k p hp => k _ _ _ _ (.newD r.ok hp (show DctOf K G false (.dK []) [] from ⟨[], rfl, .nil⟩)) q⟩
theorem de_dnewT : DE K mg W X (.Dict [] [] pos) tDNewT (τDNew true) :=
  ⟨pe_dnewT, fun _ _ _ _ _ _ _ G H _ _ r q k p hp => k _ _ _ _ (.newD r.ok hp (show DctOf K G true (.dT []) [] from ⟨[], rfl, .nil⟩)) q⟩
/-! d[k] = v, d the def's own -/
def τDPut (i : Nat) (k v : DT) : DTS := fun x M ρ => match lk ρ i with
  | some (.dct t kvs) => v x ρ fun s => k x ρ fun y => match s.fz, y with
    | .dat dv, .dat dk => KeyOk t dk ∧ kvs.length < sizeLine ∧ M.nx (stv ρ i (some (.dct t (dput kvs dk dv))))
    | _, _ => False
  | _ => False
theorem ds_dput {nm : Str} {p : Pos} (i : Nat) (hu : X.A.units + 1 < cLine) (k : DE K mg W X e te τe) (v : DE K mg W X f tf τf) (hN : X.N[i]? = some nm := by rfl) (hv : Vis X.env.scope nm := by first | exact Or.inl rfl | exact Or.inr (Or.inl rfl) | exact Or.inr (Or.inr rfl)) (hd : (nm == ("__debug__" : Str)) = false := by decide)
    (hcd : (nm == ("__classdict__" : Str)) = false := by decide) (hs : swapsWith f (some (.Subscript (.Name nm p) e pos')) pos.line X.env = pure false := by rfl) :
    DS K mg W X (.Assign [.Subscript (.Name nm p) e pos'] f pos) (sDPut (tVar i) te tf) (τDPut i τe τf) := by
  refine ⟨ps_dput hu (pe_var hN hv hd hcd) k.pe v.pe hs, fun Z G0 H0 x hx E M en σ ρ G H R h => ?_⟩
  unfold τDPut at h
  split at h
  · rename_i t kvs e0
    refine v.sem Z G0 H0 x hx σ ρ G H _ _ R h fun s v1 G1 H1 g1 h1 => ?_
    obtain ⟨G2, g2, _⟩ := g1.fz
    have R2 := R.mono g2.ext g2.ok
    obtain ⟨w, e1, l, u, rfl, q1, q2, q3, q4, q5⟩ := R2.sl i _ e0
    refine ⟨_, e1, ?_⟩
    refine k.sem Z G0 H0 x hx σ ρ G2 H1 _ _ R2 h1 fun y v2 G3 H3 g3 h3 => ?_
    have R3 := R2.mono g3.ext g3.ok
    split at h3
    · rename_i s' y' dv dk es
      obtain ⟨w', e1', l', u', rfl, c1, c2, c3, c4, c5⟩ := R3.sl i _ e0
      rw [e1] at e1'
      cases e1'
      have dV : Dq K G3 v1 dv := by
        have z := g2.sv.mono g3.ext
        rw [es] at z
        exact z
      have dK : Dq K G3 v2 dk := g3.sv
      unfold KeyOk at h3
      unfold DctOf at c2
      cases t with
      | true =>
        rw [if_pos rfl] at h3 c2
        obtain ⟨⟨ks, rfl⟩, hl, hn⟩ := h3
        obtain ⟨xs, rfl, cx⟩ := c2
        cases dK with
        | @tup b ys _ p1 p2 =>
          have ey := dqKeys ks ys p2
          subst ey
          refine ⟨l, _, rfl, .inr ⟨xs, ks, b, c1, rfl, g3.ok.s _ _ p1, by rw [dqT_len cx]; exact hl, rfl⟩, en.nx σ _ G3 _ ?_ hn⟩
          have up : upd G3 l (.dT (putK xs ks v1)) = upd G3 l (.dT (putK xs ks v1)) := rfl
          exact R3.wrG e0 rfl e1 c3 c4 c5 ⟨l, _, rfl, upd_same, (show DctOf K G3 true (.dT (putK xs ks v1)) _ from ⟨_, rfl, dqT_put dV cx⟩), c3, c4, c5⟩ rfl
      | false =>
        rw [if_neg (by decide)] at h3 c2
        obtain ⟨⟨k1, rfl⟩, hl, hn⟩ := h3
        obtain ⟨xs, rfl, cx⟩ := c2
        have ey := dqKey k1 v2 dK
        subst ey
        refine ⟨l, _, rfl, .inl ⟨xs, k1, c1, rfl, by rw [dqK_len cx]; exact hl, rfl⟩, en.nx σ _ G3 _ ?_ hn⟩
        exact R3.wrG e0 rfl e1 c3 c4 c5 ⟨l, _, rfl, upd_same, (show DctOf K G3 false (.dK (putK xs k1 v1)) _ from ⟨_, rfl, dqK_put dV cx⟩), c3, c4, c5⟩ rfl
    · exact h3.elim
  · exact h.elim
/-! from here on the dict in slot i stands still -/
def tFrzD (i : Nat) (t : TS) : TS := fun D σ H => (∃ l u, σ[i]? = some (some (.ref l)) ∧ H l = some u ∧ Mut (some u) ∧ ∀ od, t D σ (upd H l (.frz od u))) ∨ t D σ H
theorem pss_frzD {X : Cx} {i : Nat} {l : List Stmt} {t : TS} (h : PSs X l t) : PSs X l (tFrzD i t) := by
  refine ⟨fun pins s σ H D I hw => ?_⟩
  rcases hw with ⟨d, u, _, hd, mu, hw⟩ | hw
  · obtain ⟨od, I1⟩ := I.lock hd mu
    exact h.run pins s σ _ D I1 (hw od)
  · exact h.run pins s σ H D I hw
def τFrzD (i : Nat) (a : DTS) : DTS := fun x M ρ => match lk ρ i with
  | some (.dct _ kvs) => a x M (stv ρ i (some (.dat (.dict kvs))))
  | _ => a x M ρ
theorem DSs.frzD (i : Nat) {sts : List Stmt} {t : TS} {τ : DTS} (h : DSs K mg W X sts t τ) : DSs K mg W X sts (tFrzD i t) (τFrzD i τ) := by
  refine ⟨pss_frzD h.pe, fun Z G0 H0 x hx E M en σ ρ G H R q => ?_⟩
  unfold τFrzD at q
  split at q
  · rename_i t kvs e0
    obtain ⟨w, e1, l, u, rfl, q1, q2, q3, q4, q5⟩ := R.sl i _ e0
    have up : ∀ od b w, G b = some w → (upd G l (.frz od u)) b = some w := fun od b w q => by
      rw [upd_ne (ne_of_none q q3)]; exact q
    unfold DctOf at q2
    split at q2
    · obtain ⟨xs, rfl, cx⟩ := q2
      refine .inl ⟨l, _, e1, q1, True.intro, fun od => ?_⟩
      exact h.sem Z G0 H0 x hx E M en σ _ _ _ (R.still e0 rfl e1 q3 q4 q5 (.dkt upd_same (dqT_mono (up od) _ _ cx))) q
    · obtain ⟨xs, rfl, cx⟩ := q2
      refine .inl ⟨l, _, e1, q1, True.intro, fun od => ?_⟩
      exact h.sem Z G0 H0 x hx E M en σ _ _ _ (R.still e0 rfl e1 q3 q4 q5 (.dkk upd_same (dqK_mono (up od) _ _ cx))) q
  · exact .inr (h.sem Z G0 H0 x hx E M en σ ρ G H R q)
end
end DL

set_option Elab.async false
set_option linter.all false
set_option maxRecDepth 100000
set_option maxHeartbeats 4000000
/-! DL12: sorted(l), l a list of rows of ints, also of empty ones. -/
namespace DL
open PySem PySem.Spec PySem.W PySem.Calls PyProof.Rows
def IsRow (h : Heap) (v : Value) (ns : List Int) : Prop := ∃ a its, v = .ref a ∧ h.IsTuple a its ∧ IntsAre its.toList ns
theorem IsRow.keeps {h h' : Heap} {v : Value} {ns : List Int} (x : IsRow h v ns) (k : ∀ b o, v = .ref b → h.get? b = some o → h'.get? b = some o) : IsRow h' v ns := by
  obtain ⟨a, its, e, ⟨o, ho, r⟩, hi⟩ := x
  exact ⟨a, its, e, ⟨o, k a o e ho, r⟩, hi⟩
theorem IsRow.type {M : Model} {h : Heap} {v : Value} {ns : List Int} (x : IsRow h v ns) : Looks M h (typeOf v) (.type "tuple") := by
  obtain ⟨a, its, rfl, ⟨o, ho, hc, _⟩, hi⟩ := x
  rw [← hc]
  exact (Looks.ld ho).andThen .now
theorem IsRow.isTup {M : Model} {h : Heap} {v : Value} {ns : List Int} (x : IsRow h v ns) : Looks M h (isInstance v (.type "tuple")) true := by
  obtain ⟨a, its, rfl, ⟨o, ho, hc, _⟩, hi⟩ := x
  intro A Q E s k q
  exact wpAny_isInstance (T := "tuple") ⟨o, k _ _ ho, hc⟩ PySem.AutoSeq1.sub_tuple_tuple q
section
variable {prog : Program} {w : World} {M : Model} {A : Around} {E : Value → Shared → Prop} {s : Shared}
theorem rich_lt_rows {v u : Value} {ns ms : List Int} {Q : Value → Shared → Prop} (hu : A.units < cLine) (hv : IsRow s.heap v ns) (hw : IsRow s.heap u ms) (h : Q (.bool (HT.lexLt ns ms)) s) : wpAny (model prog w) A (richCompare .Lt v u) Q E s := by
  have iu := fun M : Model => hw.isTup (M := M)
  obtain ⟨a, its, rfl, ⟨⟨c1, d1, data1, s1⟩, ga, e1, n1, f1⟩, ia⟩ := hv
  obtain ⟨b, its2, rfl, ⟨⟨c2, d2, data2, s2⟩, gb, e2, n2, f2⟩, ib⟩ := hw
  simp only at e1 f1 e2 f2
  subst e1 f1 e2 f2
  exact richCompare_meets_room (op := .Lt) ⟨_, ga, rfl⟩ ⟨_, gb, rfl⟩ PySem.F.slot_tuple_lt PySem.F.entry_tuple_lt (PySem.F.args_tuple_lt_2 _ _) (NtL.nt_lt_ints a b (.type "tuple") (.type "tuple") its its2 n1 n2 d1 d2 s1 s2 ns ms ia ib) ⟨ga, gb, iu, ⟨(fun x => nomatch x), h⟩⟩ hu
theorem lt_gen {v u : Value} {ns ms : List Int} {Q : Bool → Shared → Prop} (hu : A.units < cLine) (hv : IsRow s.heap v ns) (hw : IsRow s.heap u ms) (h : Q (HT.lexLt ns ms) s) : wpAny (model prog w) A (keyLt' general' v u) Q E s := by
  show wpAny (model prog w) A (oneLt' false v u) Q E s
  rw [oneLt'_eq]
  simp only [Bool.false_eq_true, if_false]
  exact wpAny_bind (rich_lt_rows hu hv hw (wpAny_truthy_bool h))
theorem lt_one {v u : Value} {ns ms : List Int} {Q : Bool → Shared → Prop} (hu : A.units < cLine) (hv : IsRow s.heap v ns) (hw : IsRow s.heap u ms) (h : Q (HT.lexLt ns ms) s) : wpAny (model prog w) A (keyLt' oneType' v u) Q E s := by
  rw [keyLt'_oneType, oneLt'_eq]
  simp only [if_true]
  refine wpAny_bind (wpAny_cRoomFor hu ?_)
  have iu := fun M : Model => hw.isTup (M := M)
  obtain ⟨a, its, rfl, ⟨⟨c1, d1, data1, s1⟩, ga, e1, n1, f1⟩, ia⟩ := hv
  obtain ⟨b, its2, rfl, ⟨⟨c2, d2, data2, s2⟩, gb, e2, n2, f2⟩, ib⟩ := hw
  simp only at e1 f1 e2 f2
  subst e1 f1 e2 f2
  refine wpAny_bind (wpAny_callSpecialIfBound?_slot ⟨_, ga, rfl⟩ PySem.F.slot_tuple_lt ?_)
  refine call_meets PySem.F.slot_tuple_lt ⟨_, ga, rfl⟩ PySem.F.entry_tuple_lt (PySem.F.args_tuple_lt_2 _ _) (NtL.nt_lt_ints a b (.type "tuple") (.type "tuple") its its2 n1 n2 d1 d2 s1 s2 ns ms ia ib) ⟨ga, gb, iu, ?_⟩
  exact wpAny_truthy_bool h
theorem rows_firsts : ∀ (vs : List Value) (nss : List (List Int)) {Q : List (Option Value) → Shared → Prop}, Paired (fun v ns => IsRow s.heap v ns) vs nss → (∀ fs : List (Option Value), fs.map Option.isSome = nss.map (fun l => !l.isEmpty) → Q fs s) → wpAny M A (vs.mapM firstOfTuple') Q E s
  | [], [], _, _, h => by rw [List.mapM_nil]; exact wpAny_pure (h [] rfl)
  | [], _ :: _, _, t, _ => nomatch t
  | _ :: _, [], _, t, _ => nomatch t
  | v :: vs, ns :: nss, Q, t, h => by
    cases t with
    | cons t1 t =>
      have ty := t1.type (M := M)
      obtain ⟨a, its, rfl, ⟨o, ho, hc, n, hd⟩, hi⟩ := t1
      rw [List.mapM_cons]
      refine wpAny_bind ?_
      rw [kas_first_eq]
      refine wpAny_bind (ty.here ?_)
      rw [if_neg (by first | decide | simp)]
      refine wpAny_bind (listItems_at ho hd (wpAny_pure ?_))
      refine wpAny_bind (rows_firsts vs nss (Q := fun bs s' => wpAny M A (pure (its[0]? :: bs)) Q E s') t fun fs hf => wpAny_pure (h _ ?_))
      rw [List.map_cons, List.map_cons, hf]
      congr 1
      cases ns with
      | nil =>
        have e : its.toList = [] := by generalize its.toList = l at hi; cases hi; rfl
        have e2 : its = #[] := by cases its; simp at e; rw [e]
        rw [e2]; rfl
      | cons x xs =>
        have e : ∃ y r, its.toList = y :: r := by generalize its.toList = l at hi; cases hi; exact ⟨_, _, rfl⟩
        obtain ⟨y, r, e⟩ := e
        have e2 : its = (y :: r).toArray := by cases its; simp at e; rw [e]
        rw [e2]; rfl
theorem rows_kind {vs : List Value} {nss : List (List Int)} (h2 : 2 ≤ vs.length) (hv : Paired (fun v ns => IsRow s.heap v ns) vs nss) (he : [] ∈ nss) :
    ∃ κ, (κ = general' ∨ κ = oneType') ∧ ∀ (M : Model) (A : Around) (E : Value → Shared → Prop) (Q : SortKind → Shared → Prop), Q κ s → wpAny M A (keyKind' vs.toArray) Q E s := by
  obtain ⟨n0, nr, rfl⟩ : ∃ n0 nr, nss = n0 :: nr := by
    match nss, he with
    | n0 :: nr, _ => exact ⟨n0, nr, rfl⟩
  obtain ⟨v₁, v₂, rest, rfl⟩ : ∃ v₁ v₂ rest, vs = v₁ :: v₂ :: rest := by
    match vs, h2 with
    | [], h2 => simp at h2
    | [_], h2 => simp at h2
    | v₁ :: v₂ :: rest, _ => exact ⟨v₁, v₂, rest, rfl⟩
  have all : ∀ fs : List (Option Value), fs.map Option.isSome = (n0 :: nr).map (fun l => !l.isEmpty) → (fs.toArray.all fun x => x.isSome) = false := fun fs hf => by
    have q : (fs.map Option.isSome).all id = false := by
      rw [hf, List.all_eq_false]
      exact ⟨false, List.mem_map.mpr ⟨[], he, rfl⟩, by simp⟩
    rw [List.all_toArray]
    rw [List.all_map] at q
    exact q
  have hT : ∀ (M : Model), ∀ v ∈ v₁ :: v₂ :: rest, Looks M s.heap (typeOf v) (.type "tuple") := by
    intro M
    have key : ∀ {l : List Value} {m : List (List Int)}, Paired (fun v ns => IsRow s.heap v ns) l m → ∀ v ∈ l, Looks M s.heap (typeOf v) (.type "tuple") := by
      intro l m p
      induction p with
      | nil => intro v h; cases h
      | cons a b ih =>
        intro v h
        rcases List.mem_cons.mp h with rfl | h
        · exact a.type
        · exact ih v h
    exact key hv
  by_cases e0 : n0 = []
  · refine ⟨oneType', .inr rfl, fun M A E Q h => ?_⟩
    rw [keyKind'_eq, List.mapM_toArray, map_eq_pure_bind]
    refine wpAny_bind (wpAny_bind (rows_firsts _ _ hv fun fs hf => wpAny_pure ?_))
    have h0 : (fs.toArray[0]?.bind id).isSome = false := by
      cases fs with
      | nil => rfl
      | cons f fr =>
        have q : f.isSome = !n0.isEmpty := by simp at hf; rw [hf.1]
        rw [e0] at q
        simpa using q
    rw [if_neg (by rw [all fs hf]; simp), if_neg (by rw [h0]; simp)]
    rw [oneTypeOnly'_eq, List.mapM_toArray, map_eq_pure_bind]
    refine wpAny_bind (wpAny_bind (wpAny_bind (kas_mapM (r := .type "tuple") _ (fun v hv Q' hq => (hT M v hv).here hq) (wpAny_pure ?_))))
    have hall : ((List.map (fun _ => Value.type "tuple") (v₁ :: v₂ :: rest)).toArray.all fun x => x == Value.type "tuple") = true := by
      simp only [List.all_toArray, List.all_map, List.all_eq_true]
      intro _ _
      rfl
    have h0 : (List.map (fun _ => Value.type "tuple") (v₁ :: v₂ :: rest)).toArray[0]? = some (.type "tuple") := by simp
    rw [h0]
    simp only [hall, if_true]
    exact wpAny_pure (wpAny_pure h)
  · refine ⟨general', .inl rfl, fun M A E Q h => ?_⟩
    rw [keyKind'_eq, List.mapM_toArray, map_eq_pure_bind]
    refine wpAny_bind (wpAny_bind (rows_firsts _ _ hv fun fs hf => wpAny_pure ?_))
    have h0 : (fs.toArray[0]?.bind id).isSome = true := by
      cases fs with
      | nil => simp at hf
      | cons f fr =>
        have q : f.isSome = !n0.isEmpty := by simp at hf; rw [hf.1]
        have e1 : n0.isEmpty = false := by cases n0 with | nil => exact absurd rfl e0 | cons _ _ => rfl
        rw [e1] at q
        simpa using q
    rw [if_neg (by rw [all fs hf]; simp), if_pos h0]
    exact wpAny_pure h
end
end DL
namespace DL
open PySem PySem.Spec PyProof.Rows L2
/-- sorted(l), l a list of rows of ints, one of them empty -/
def rSortR (K : PySem.W.Frag) : List V → Hp → VK → Prop := fun vs H Q => ∃ (a : Addr) (ts : List Addr) (k : Addr → List Int), vs = [.ref a] ∧ SqL K H a (ts.map V.ref) ∧ (∀ t ∈ ts, H t = some (.tup ((k t).map V.int))) ∧ 2 ≤ ts.length ∧ (∃ t ∈ ts, k t = []) ∧
  ∀ ts' : List Addr, ts'.Perm ts → ts'.Pairwise (fun p q => HT.lexLt (k q) (k p) = false) → ∀ p, H p = none → Q (.ref p) (upd H p (.lst (ts'.map V.ref)))
theorem paired_rows {h : Heap} {k : Addr → List Int} : ∀ {ts : List Addr}, (∀ t ∈ ts, IsRow h (.ref t) (k t)) → Paired (fun v ns => IsRow h v ns) (ts.map Value.ref) (ts.map k)
  | [], _ => .nil
  | t :: ts, hh => .cons (hh t List.mem_cons_self) (paired_rows fun u hu => hh u (List.mem_cons_of_mem _ hu))
theorem cr_sortR {X : Cx} (hu : X.A.units + 65 < cLine) : CallR X (.builtin "sorted") (rSortR X.K) := by
  intro pins s σ H vs us Q I r h
  obtain ⟨a, ts, k, rfl, hs, hN, hlen2, ⟨te, hte, hke⟩, q⟩ := h
  obtain ⟨its, rv, hl, hz⟩ := I.list hs
  rw [Vals.ref1 r]
  have ei := nts_of rv
  have hrow : ∀ t ∈ ts, IsRow s.heap (.ref t) (k t) := fun t ht => by
    obtain ⟨its2, r1, p1, _⟩ := I.tuple (SqT.of (hN t ht))
    exact ⟨t, its2.toArray, rfl, p1, Vals.ints r1⟩
  rw [List.length_map] at hz
  have hzi : its.length ≤ sizeLine := by rw [ei, List.length_map]; exact hz
  refine SrtO.sorted_ord (NtL.swo_lexL fun u => k (adO u)) hl.isList hzi (fun _ h₁ a' ha' kk => ?_) fun out h1 h2 => ?_
  · intro h' keep
    have hrow' : ∀ t ∈ ts, IsRow h' (.ref t) (k t) := fun t ht => (hrow t ht).keeps fun b o e g => keep b o (kk b o g).1 (kk b o g).2
    have hp : Paired (fun v ns => IsRow h' v ns) its (ts.map k) := by rw [ei]; exact paired_rows hrow'
    obtain ⟨κ, hκ, hkind⟩ := rows_kind (s := { s with heap := h' }) (by rw [ei, List.length_map]; exact hlen2) hp (List.mem_map.mpr ⟨te, hte, hke⟩)
    refine ⟨κ, fun Q E hq => hkind _ _ E Q hq, ?_⟩
    have at_ : ∀ v ∈ its, IsRow h' v (k (adO v)) := fun v hv => by
      rw [ei] at hv
      obtain ⟨t, ht, rfl⟩ := List.mem_map.mp hv
      exact hrow' t ht
    intro p q hp hq
    have hu2 : X.A.in1.in1.units < cLine := by show X.A.units + 1 + 1 < cLine; omega
    rcases hκ with rfl | rfl
    · exact lt_gen (Q := fun r s' => s' = _ ∧ r = HT.lexLt (k (adO p.1)) (k (adO q.1))) (E := fun _ _ => False) (s := { s with heap := h' }) hu2 (at_ p.1 hp) (at_ q.1 hq) ⟨rfl, rfl⟩
    · exact lt_one (Q := fun r s' => s' = _ ∧ r = HT.lexLt (k (adO p.1)) (k (adO q.1))) (E := fun _ _ => False) (s := { s with heap := h' }) hu2 (at_ p.1 hp) (at_ q.1 hq) ⟨rfl, rfl⟩
  · obtain ⟨ep, he⟩ := PyProof.Rows.sortedAll_at s.heap its out.toArray
    have eo : out = (out.map adO).map Value.ref := ref_map fun u hm => by
      have hm' : u ∈ its := h2.perm.mem_iff.mp hm
      rw [ei] at hm'
      obtain ⟨t, _, e⟩ := List.mem_map.mp hm'
      exact ⟨t, e.symm⟩
    have hp : (out.map adO).Perm ts := by
      have p1 := h2.perm.map adO
      rw [ei, ad_map] at p1
      exact p1
    have hs : (out.map adO).Pairwise (fun p q => HT.lexLt (k q) (k p) = false) := List.pairwise_map.mpr (h1.imp fun {x y} z => z)
    have rvo : Vals ((out.map adO).map V.ref) out := by
      have z := of_nts (out.map adO)
      rw [← eo] at z
      exact z
    refine ⟨.ref _, upd H (s.heap.objs.size + 1) (.lst ((out.map adO).map V.ref)), I.laid (t' := s.toks) (fun _ _ => PyProof.Rows.sortedAll_old) (Nat.le_succ _) ⟨?_, out, ep, rvo, he⟩, rfl, q _ hp hs _ (I.hok.fresh (Nat.le_succ _))⟩
    rw [List.length_map, hp.length_eq]
    exact hz
end DL

set_option Elab.async false
set_option linter.all false
set_option maxRecDepth 100000
set_option maxHeartbeats 4000000
/-! DL13: sorted(l), l a list of rows of numbers, as a step over data. -/
namespace DL
open PySem PySem.Spec PyProof.Rows L2
theorem toks_lt : ∀ a b : List Nat, PyProof.Rows.lexLt itemOrd (PySem.W.keyToksAll (a.map nI)) (PySem.W.keyToksAll (b.map nI)) = HT.lexLt (a.map fun n : Nat => (n : Int)) (b.map fun n : Nat => (n : Int))
  | [], [] => by rw [List.map_nil, PySem.W.keyToksAll]; rfl
  | [], y :: ys => by rw [List.map_nil, List.map_cons, PySem.W.keyToksAll, PySem.W.keyToksAll]; rfl
  | x :: xs, [] => by rw [List.map_nil, List.map_cons, PySem.W.keyToksAll, PySem.W.keyToksAll]; rfl
  | x :: xs, y :: ys => by
    have ih := toks_lt xs ys
    rw [List.map_cons, List.map_cons, PySem.W.keyToksAll, PySem.W.keyToksAll, PySem.W.keyToks, PySem.W.keyToks, List.map_cons, List.map_cons, HT.lexLt_cons]
    by_cases e : x = y
    · subst e
      rw [if_pos rfl, ← ih]
      rw [show ((Sum.inl 1 : Int ⊕ List Nat) :: ([Sum.inl (x : Int)] ++ PySem.W.keyToksAll (xs.map nI))) = [Sum.inl 1, Sum.inl (x : Int)] ++ PySem.W.keyToksAll (xs.map nI) from rfl, show ((Sum.inl 1 : Int ⊕ List Nat) :: ([Sum.inl (x : Int)] ++ PySem.W.keyToksAll (ys.map nI))) = [Sum.inl 1, Sum.inl (x : Int)] ++ PySem.W.keyToksAll (ys.map nI) from rfl]
      exact PySem.W.lex_pre _ _ _
    · have e' : ¬ ((x : Nat) : Int) = y := by omega
      rw [if_neg e']
      rw [show ((Sum.inl 1 : Int ⊕ List Nat) :: ([Sum.inl (x : Int)] ++ PySem.W.keyToksAll (xs.map nI))) = [Sum.inl 1] ++ (Sum.inl (x : Int) :: PySem.W.keyToksAll (xs.map nI)) from rfl, show ((Sum.inl 1 : Int ⊕ List Nat) :: ([Sum.inl (y : Int)] ++ PySem.W.keyToksAll (ys.map nI))) = [Sum.inl 1] ++ (Sum.inl (y : Int) :: PySem.W.keyToksAll (ys.map nI)) from rfl]
      rw [PySem.W.lex_pre, PySem.W.lex_atom (fun z => e' (Sum.inl.inj z))]
      show PyProof.Rows.lexLt itemOrd [Sum.inl (x : Int)] [Sum.inl (y : Int)] = _
      by_cases h : (x : Int) < y
      · rw [decide_eq_true h]
        exact PyProof.Rows.lex_true.mpr (.inl (decide_eq_true h))
      · rw [decide_eq_false h]
        refine PyProof.Rows.lex_false.mpr ⟨decide_eq_false h, .inl (decide_eq_true (by omega))⟩
theorem leD_tups (a b : List Nat) : leD (tup a) (tup b) = !HT.lexLt (b.map fun n : Nat => (n : Int)) (a.map fun n : Nat => (n : Int)) := by
  rw [leD_eq, ← toks_lt]
  unfold tup PySem.W.dataLt
  rw [PySem.W.keyToks, PySem.W.keyToks]
/-- a sorted list of the same rows -/
theorem sortD_is {L M : List (List Nat)} (h : M.Perm L) (hs : M.Pairwise fun a b => HT.lexLt (b.map fun n : Nat => (n : Int)) (a.map fun n : Nat => (n : Int)) = false) : sortD (L.map tup) = M.map tup := by
  rw [sortD_tups h.symm]
  unfold sortD
  refine List.mergeSort_of_pairwise ?_
  refine List.pairwise_map.mpr (hs.imp fun {a b} z => ?_)
  rw [leD_tups, z]
  rfl
/-! rows in the heap -/
theorem rows_at {K : PySem.W.Frag} {G : Hp} : ∀ {L : List (List Nat)} {xs : List V}, DqAll K G xs (L.map tup) → ∃ ts : List Addr, xs = ts.map V.ref ∧ Paired (fun t l => G t = some (.tup (l.map fun n : Nat => V.int (n : Int)))) ts L
  | [], _, h => by cases h; exact ⟨[], rfl, .nil⟩
  | l :: L, _, h => by
    cases h with
    | cons h1 h2 =>
      obtain ⟨ts, rfl, hp⟩ := rows_at h2
      have h1' : Dq K G _ (.tuple (l.map nI)) := h1
      cases h1' with
      | @tup a ys _ p1 p2 =>
        have e : ys = l.map fun n : Nat => V.int (n : Int) := by
          have q : DqAll K G ys ((l.map fun n : Nat => (n : Int)).map PyData.int) := by rw [List.map_map]; exact p2
          have := q.ints
          rw [this, List.map_map]; rfl
        exact ⟨a :: ts, rfl, .cons (by rw [p1, e]) hp⟩
def unV : V → Nat
  | .int i => i.toNat
  | _ => 0
def rowOf (G : Hp) (t : Addr) : List Nat := match G t with
  | some (.tup xs) => xs.map unV
  | _ => []
theorem rowOf_at {G : Hp} {t : Addr} {l : List Nat} (h : G t = some (.tup (l.map fun n : Nat => V.int (n : Int)))) : rowOf G t = l := by
  unfold rowOf
  rw [h]
  dsimp only
  rw [List.map_map]
  exact (List.map_congr_left fun n _ => by show ((n : Int)).toNat = n; omega).trans (List.map_id l)
theorem rows_of {G : Hp} : ∀ {ts : List Addr} {L : List (List Nat)}, Paired (fun t l => G t = some (.tup (l.map fun n : Nat => V.int (n : Int)))) ts L → ts.map (rowOf G) = L ∧ ∀ t ∈ ts, G t = some (.tup ((rowOf G t).map fun n : Nat => V.int (n : Int)))
  | [], _, .nil => ⟨rfl, fun _ h => by cases h⟩
  | t :: ts, _, .cons h1 h2 => by
    obtain ⟨q1, q2⟩ := rows_of h2
    have e := rowOf_at h1
    refine ⟨by rw [List.map_cons, e, q1], fun u hu => ?_⟩
    rcases List.mem_cons.mp hu with rfl | hu
    · rw [e]; exact h1
    · exact q2 u hu
def rSortB (K : PySem.W.Frag) : List V → Hp → VK → Prop := fun vs H Q => rSortA K vs H Q ∨ rSortR K vs H Q
theorem cr_sortB {X : Cx} (hu : X.A.units + 65 < cLine) : CallR X (.builtin "sorted") (rSortB X.K) := by
  intro pins s σ H vs us Q I r h
  rcases h with h | h
  · exact cr_sort hu pins s σ H vs us Q I r h
  · exact cr_sortR hu pins s σ H vs us Q I r h
def bSortR : List S → (S → Prop) → Prop := fun ss Q => match ss with
  | [s] => ∃ L : List (List Nat), s.d = .list (L.map tup) ∧ Q (.own (sortD (L.map tup)))
  | _ => False
theorem lift_sortR {K : PySem.W.Frag} : LiftA K (rSortB K) bSortR := by
  intro Z G H vs ss Q Qd o h b k
  unfold bSortR at b
  split at b
  · rename_i s
    obtain ⟨L, e, b⟩ := b
    by_cases c : 2 ≤ L.length ∧ [] ∈ L
    · obtain ⟨v, rfl, h1⟩ := svs1 h
      obtain ⟨a, xs, rfl, q1, q2⟩ := h1.list o e
      obtain ⟨ts, rfl, hp⟩ := rows_at q2
      obtain ⟨r1, r2⟩ := rows_of hp
      have hlen : ts.length = L.length := by rw [← r1, List.length_map]
      refine .inr ⟨a, ts, fun t => (rowOf G t).map fun n : Nat => (n : Int), rfl, q1, fun t ht => ?_, by omega, ?_, fun ts' hp' hs p hp2 => ?_⟩
      · rw [List.map_map]
        exact o.s _ _ (r2 t ht)
      · have hm := c.2
        rw [← r1] at hm
        obtain ⟨t, ht, et⟩ := List.mem_map.mp hm
        exact ⟨t, ht, by dsimp only; rw [et]; rfl⟩
      · have dM : DqAll K G (ts'.map V.ref) ((ts'.map (rowOf G)).map tup) := by
          have all : ∀ t ∈ ts', G t = some (.tup ((rowOf G t).map fun n : Nat => V.int (n : Int))) := fun t ht => r2 t (hp'.mem_iff.mp ht)
          clear hp' hs
          induction ts' with
          | nil => exact .nil
          | cons t ts' ih =>
            refine .cons ?_ (ih fun u hu => all u (List.mem_cons_of_mem _ hu))
            refine .tup (all t List.mem_cons_self) ?_
            have q := DqAll.ints_of (K := K) (G := G) ((rowOf G t).map fun n : Nat => (n : Int))
            rw [List.map_map, List.map_map] at q
            exact q
        have eD : sortD (L.map tup) = (ts'.map (rowOf G)).map tup := sortD_is (by rw [← r1]; exact hp'.map _) (List.pairwise_map.mpr (hs.imp fun {a b} z => z))
        rw [eD] at b
        exact k _ _ _ _ (.newL o hp2 dM) b
    · have hn : 2 ≤ L.length → [] ∉ L := fun h2 hm => c ⟨h2, hm⟩
      have h' := lift_sorted (K := K) Z G H vs [s] Q Qd o h (bSorted_tups e hn b) k
      exact .inl h'
  · exact b.elim
theorem hu1 {A : Around} {k : Nat} (hr : Room k A) : A.units + 1 < cLine := by
  have := hu4 hr
  omega
end DL

set_option Elab.async false
set_option linter.all false
set_option maxRecDepth 100000
set_option maxHeartbeats 4000000
namespace Law
open PySem PySem.Spec PyProof.Rows L2 DL Mb
/-! the rest of lists.py, with TooMany -/
def sp__holding : DSp := fun ss _ Q => ∃ n F : Nat, (n ≤ 20 ∧ F < 2 ^ (2 ^ n)) ∧ ss = [.dat (.list ((famAll n).map nI)), .dat (nI F)] ∧ Q (.dat (nI (holding n F n)))
def sp__are_apart : DSp := fun ss _ Q => ∃ (n : Nat) (s : S) (sets : List (List Nat)), (n ≤ 20 ∧ SetsOk n sets ∧ sets.length ≤ 4000) ∧ ss = [.dat (nI n), s] ∧ isSeq s (sets.map tup) ∧ ∀ b : Bool, (b = true ↔ ApartRows sets) → Q (.dat (.bool b))
def spX_members : DSp := fun ss x Q => ∃ n F : Nat, (n ≤ 20 ∧ F < 2 ^ (2 ^ n)) ∧ ss = [.dat (nI F)] ∧ ((bitsOf (2 ^ n) F).length ≤ 2000 → Q (.own ((rowsOf n F).map tup))) ∧ (2000 < (bitsOf (2 ^ n) F).length → x "TooMany" [])
def spX_least_hitting : DSp := fun ss x Q => ∃ (s : S) (sets : List (List Nat)), (SetsOk 20 sets ∧ sets.length ≤ 4000) ∧ ss = [s] ∧ isSeq s (sets.map tup) ∧
  ∀ L : List (List Nat), L.Nodup → (∀ l, l ∈ L ↔ MinHit sets l) → (L.length ≤ 2000 → Q (.dat (.tuple (sortD (L.map tup))))) ∧ (2000 < L.length → x "TooMany" [])
def compl (n : Nat) (l : List Nat) : List Nat := (List.range n).filter fun k => !decide (k ∈ l)
def spX_are_lists : DSp := fun ss x Q => ∃ (n : Nat) (s t : S) (least greatest : List (List Nat)), (n ≤ 20 ∧ SetsOk n least ∧ least.length ≤ 4000 ∧ SetsOk n greatest ∧ greatest.length ≤ 4000) ∧ ss = [.dat (nI n), s, t] ∧ isSeq s (least.map tup) ∧ isSeq t (greatest.map tup) ∧
  (¬ (ApartRows least ∧ ApartRows greatest) → Q (.dat (.bool false))) ∧
  (ApartRows least → ApartRows greatest → ∀ L : List (List Nat), L.Nodup → (∀ l, l ∈ L ↔ MinHit least l) → (2000 < L.length → x "TooMany" []) ∧
    (L.length ≤ 2000 → ∀ b : Bool, (b = true ↔ ∀ l, l ∈ greatest.map (compl n) ↔ l ∈ L) → Q (.dat (.bool b))))
-- N [(0, 'without'), (1, 'family'), (2, 'number')] set() set()
def τ__holding : DTS :=
  (τSeq (τFor (τRng1 (τCons (τCB bLen (τCons (τVar 0) τNil)) τNil)) (γName 2)
    (τAsg (τOp (bI0 fun i j => .int (Builtin.bitOr i j)) (τVar 1) (τOp (bI CShl fun i j => .int (i * 2 ^ j.toNat)) (τOp (bI0 fun i j => .int (Builtin.bitAnd i j)) (τVar 1) (τOp bIx (τVar 0) (τVar 2))) (τOp (bI CShl fun i j => .int (i * 2 ^ j.toNat)) (τC (.int 1)) (τVar 2)))) (γName 1)))
    (τRetV 1))
-- N [(0, 'size'), (1, 'sets'), (2, 'without'), (3, 'masks'), (4, 'family'), (5, 'mask'), (6, 'numbers')] set() set()
def τ__are_apart_r1 : DTS :=
  (τRet (τOp bEq (τOp (bI0 fun i j => .int (Builtin.bitAnd i j)) (τVar 4) (τCall sp__one_more (τCons (τVar 2) (τCons (τCall sp__holding (τCons (τVar 2) (τCons (τVar 4) τNil))) τNil)))) (τC (.int 0))))
def τ__are_apart : DTS :=
  (τSeq (τAsg (τCall sp__families_without (τCons (τVar 0) τNil)) (γName 2))
    (τSeq (τAsg (τLc (τIterB (τVar 1)) (γName 6) τYes (τCall sp__mask (τCons (τVar 6) τNil)) [6]) (γName 3))
    (τSeq (τAsg (τC (.int 0)) (γName 4))
    (τFrz 3 (τSeq (τFor (τIter (τVar 3)) (γName 5)
    (τAsg (τOp (bI0 fun i j => .int (Builtin.bitOr i j)) (τVar 4) (τOp (bI CShl fun i j => .int (i * 2 ^ j.toNat)) (τC (.int 1)) (τVar 5))) (γName 4)))
    (τSeq (τIfS (τTest (τOp (bI0 fun i j => .bool (decide (i < j))) (τLenSet (τVar 3)) (τCB bLen (τCons (τVar 3) τNil))))
    (τRet (τC (.bool false)))
    τNext)
    τ__are_apart_r1))))))
-- N [(0, 'size'), (1, 'least'), (2, 'greatest'), (3, 'rests'), (4, 'numbers'), (5, 'k')] {'size'} {'numbers'}
def τ_are_lists_r1 : DTS :=
  (τSeq (τAsg (τLc (τIterB (τVar 2)) (γName 4) τYes (τCB bTuple (τCons (τLc (τRng1 (τCons (τVar 0) τNil)) (γName 5) (τTest (τOp (bIn true) (τVar 5) (τVar 4))) (τVar 5) [5]) τNil)) [4]) (γName 3))
    (τRet (τOp bEq (τCB bTuple (τCons (τCB bSorted (τCons (τVar 3) τNil)) τNil)) (τCallX spX_least_hitting (τCons (τVar 1) τNil)))))
def τ_are_lists : DTS :=
  (τSeq (τIfS (τOr (τNot (τTru (τCall sp__are_apart (τCons (τVar 0) (τCons (τVar 1) τNil))))) (τNot (τTru (τCall sp__are_apart (τCons (τVar 0) (τCons (τVar 2) τNil))))))
    (τRet (τC (.bool false)))
    τNext)
    τ_are_lists_r1)
-- N [(0, 'family'), (1, 'found'), (2, 'one')] set() set()
def τX__members_r1 : DTS :=
  (τSeq (τAsg (τOp (bI0 fun i j => .int (Builtin.bitAnd i j)) (τVar 0) (τUn (fun i => -i) (τVar 0))) (γName 2))
    (τSeq (τApp 1 (τCall sp__numbers (τCons (τOp (bI0 fun i j => .int (i - j)) (τBits (τVar 2)) (τC (.int 1))) τNil)))
    (τAsg (τOp (bI0 fun i j => .int (Builtin.bitXor i j)) (τVar 0) (τVar 2)) (γName 0))))
def τX__members : DTS :=
  (τSeq (τAsg (τLst τNil) (γName 1))
    (τSeq (τWhile (τTru (τVar 0))
    (τSeq (τIfS (τTest (τOp bEq (τCB bLen (τCons (τVar 1) τNil)) (τC (.int 2000))))
    (τRaise "TooMany")
    τNext)
    τX__members_r1))
    (τRetV 1)))
-- N [(0, 'sets'), (1, 'size'), (2, 'without'), (3, 'whole'), (4, 'missing'), (5, 'numbers'), (6, 'hitting'), (7, 'least')] set() set()
def τX_least_hitting : DTS :=
  (τSeq (τAsg (τOp bMaxDef (τLc (τIterB (τVar 0)) (γName 5) (τTru (τVar 5)) (τOp bPlus (τOp bIx (τVar 5) (τUn (fun i => -i) (τC (.int 1)))) (τC (.int 1))) [5]) (τC (.int 0))) (γName 1))
    (τSeq (τAsg (τCall sp__families_without (τCons (τVar 1) τNil)) (γName 2))
    (τSeq (τAsg (τOp (bI0 fun i j => .int (i - j)) (τOp (bI CShl fun i j => .int (i * 2 ^ j.toNat)) (τC (.int 1)) (τVar 1)) (τC (.int 1))) (γName 3))
    (τSeq (τAsg (τC (.int 0)) (γName 4))
    (τFrz 0 (τSeq (τFor (τIter (τVar 0)) (γName 5)
    (τAsg (τOp (bI0 fun i j => .int (Builtin.bitOr i j)) (τVar 4) (τOp (bI CShl fun i j => .int (i * 2 ^ j.toNat)) (τC (.int 1)) (τOp (bI0 fun i j => .int (Builtin.bitXor i j)) (τVar 3) (τCall sp__mask (τCons (τVar 5) τNil))))) (γName 4)))
    (τSeq (τAsg (τCall sp__within (τCons (τVar 2) (τCons (τVar 4) τNil))) (γName 4))
    (τSeq (τAsg (τOp (bI0 fun i j => .int (Builtin.bitXor i j)) (τOp (bI0 fun i j => .int (i - j)) (τOp (bI CShl fun i j => .int (i * 2 ^ j.toNat)) (τC (.int 1)) (τOp (bI CShl fun i j => .int (i * 2 ^ j.toNat)) (τC (.int 1)) (τVar 1))) (τC (.int 1))) (τVar 4)) (γName 6))
    (τSeq (τAsg (τOp (bI0 fun i j => .int (Builtin.bitXor i j)) (τVar 6) (τOp (bI0 fun i j => .int (Builtin.bitAnd i j)) (τVar 6) (τCall sp__one_more (τCons (τVar 2) (τCons (τVar 6) τNil))))) (γName 7))
    (τRet (τCB bTuple (τCons (τCB bSorted (τCons (τCallX spX_members (τCons (τVar 7) τNil)) τNil)) τNil))))))))))))
local macro_rules | `(tactic| walk_at "dl") => `(tactic| simp only [τLenSet, τCallX, τRaise, τSeq, τAsg, τRet, τRetV, τOp, τC, τVar, τCons, consQ, τNil, τTup, τLst, τCB, τLc, τIterB, τIter, τRng1, τRng2, τPar, τLstRg, τRg1, τRg2, τTest, τTru, tru, τNot, τAnd, τOr, τAndV, τOrV, τNotV, τIf, τIfS, τSl, τPart, τNoPart, τFor, τApp, τExt, τFrz, τNever, τNext, τCall, callQ, anyBor, layAll, S.lay, S.d, S.fz, noBor, γName, lk, stv, DL.envOf, noneL, wipeE, bI0, bI, bPlus, bEq, bNe, bIx, bSl, bLen, bSum, bTuple, bList, bMaxDef, datas, τBits, τUn, τYes, τIsi, dctB, S.liv, lcStep, reduceIte, Bool.false_eq_true, List.length_cons, List.length_nil, Nat.reduceAdd, Nat.sub_self, Nat.reduceSub, true_and, and_true, Nat.zero_le, List.nil_append, ne_eq, reduceCtorEq, not_false_eq_true, isNone, bIsN, bNotN, Bool.not_true, Bool.not_false, Bool.true_eq_false, beq_self_eq_true, sh_int, sh_bool, sh_nil, sh_nilT, S.solid, DL.solid, DL.solidAll, eqv_int, eqv_nil, eqv_nilT, and_self, decide_eq_true_eq, Option.map_some])
theorem sem__holding (ss : List S) (x : Xn) (Q : S → Prop) (h : sp__holding ss x Q) : τ__holding x { nx := fun _ => Q (.dat .none), rt := Q } (DL.envOf ss 3) := by
  obtain ⟨n, F, ⟨hn, hF⟩, rfl, q⟩ := h
  unfold τ__holding
  walk_at "dl"
  rw [fam_len]
  refine ⟨by omega, ?_⟩
  rw [Int.toNat_natCast]
  refine forL_rng 0 n (fun k ρ => ∃ a, ρ = [some (.dat (.list ((famAll n).map nI))), some (.dat (nI (holding n F k))), a]) ⟨_, rfl⟩ (fun k hk ρ kk ⟨a, e1⟩ hkk => ?_) fun ρ ⟨a, e1⟩ => ?_
  · subst e1
    rw [Int.zero_add]
    have h2 := pow20 (n := k) (by omega)
    have h3 := pow20 hn
    walk_at "dl"
    rw [fam_at hk]
    walk_at "dl"
    rw [one_shl, and_nat, shl_nat, or_nat]
    exact ⟨cshl1 (by omega), cshl_nat (Nat.and_lt_two_pow _ (famW_lt k _ n (by omega))) (by omega), hkk _ ⟨_, rfl⟩⟩
  · subst e1
    walk_at "dl"
    exact q
theorem famOf_snoc (pre : List Nat) (m : Nat) : famOf (pre ++ [m]) = famOf pre ||| 2 ^ m := by
  unfold famOf
  rw [List.foldl_append]
  rfl
theorem nodup_int {l : List Nat} : (l.map fun n => ((n : Nat) : Int)).Nodup ↔ l.Nodup := by
  constructor
  · intro h
    induction l with
    | nil => exact List.nodup_nil
    | cons a l ih =>
      rw [List.map_cons, List.nodup_cons] at h
      exact List.nodup_cons.mpr ⟨fun hm => h.1 (List.mem_map.mpr ⟨a, hm, rfl⟩), ih h.2⟩
  · exact fun h => nodup_map (fun a _ b _ e => Int.ofNat.inj e) h
theorem r1_apart (x : Xn) (Q : S → Prop) (n F : Nat) (hn : n ≤ 20) (hF : F < 2 ^ (2 ^ n)) (a b c d e : Option S) (q : Q (.dat (.bool (decide (F &&& oneMore n (holding n F n) n = 0))))) :
    τ__are_apart_r1 x { nx := fun _ => Q (.dat .none), rt := Q } [a, b, some (.own ((famAll n).map nI)), c, some (.dat (nI F)), d, e] := by
  unfold τ__are_apart_r1
  walk_at "dl"
  refine ⟨n, F, ⟨hn, hF⟩, rfl, rfl, ?_⟩
  walk_at "dl"
  refine ⟨n, holding n F n, ⟨hn, holding_lt hF n (Nat.le_refl _)⟩, rfl, rfl, ?_⟩
  walk_at "dl"
  rw [and_nat]
  have e2 : decide (((F &&& oneMore n (holding n F n) n : Nat) : Int) = 0) = decide (F &&& oneMore n (holding n F n) n = 0) := by
    rw [Bool.eq_iff_iff, decide_eq_true_eq, decide_eq_true_eq]
    omega
  rw [e2]
  exact q
theorem sem__are_apart (ss : List S) (x : Xn) (Q : S → Prop) (h : sp__are_apart ss x Q) : τ__are_apart x { nx := fun _ => Q (.dat .none), rt := Q } (DL.envOf ss 7) := by
  obtain ⟨n, s, sets, ⟨hn, ok, hl⟩, rfl, hs, q⟩ := h
  have e := sl_eq
  have ml : ∀ t ∈ sets, maskOf t < 2 ^ n := fun t ht => mask_lt (up_nodup (ok.up t ht)) (ok.lt t ht)
  have h2n := pow20 hn
  have main : ∀ s : S, isSeq s (sets.map tup) → τ__are_apart x { nx := fun _ => Q (.dat .none), rt := Q } [some (.dat (nI n)), some s, none, none, none, none, none] := by
    intro s hs
    unfold τ__are_apart
    walk_at "dl"
    refine ⟨n, hn, rfl, ?_⟩
    have body : ∀ (γ : DTG) (τt : DTT) (R : List D → Prop) (env : DEnv), γ = γName 6 → τt = τYes → env = [some (.dat (nI n)), some s, some (.own ((famAll n).map nI)), none, none, none, none] → R ((sets.map maskOf).map nI) → lcL γ τt (τCall sp__mask (τCons (τVar 6) τNil)) env (sets.map tup) [] R := by
      intro γ τt R env e1 e2 e3 hR
      subst e1 e2 e3
      refine lcL_mapA (fun t => nI (maskOf t)) (fun t ht acc k ha hk => ?_) (by omega) (by rw [List.map_map] at hR; exact hR)
      walk_at "dl"
      refine ⟨t, ⟨by have := up_len (ok.up t ht) (ok.lt t ht); omega, fun m hm => by have := ok.lt t ht m hm; omega⟩, rfl, ?_⟩
      walk_at "dl"
      exact ⟨ha, hk⟩
    have fin : forL (γName 5) (τAsg (τOp (bI0 fun i j => .int (Builtin.bitOr i j)) (τVar 4) (τOp (bI CShl fun i j => .int (i * 2 ^ j.toNat)) (τC (.int 1)) (τVar 5))) (γName 4)) x
        { nx := τSeq (τIfS (τTest (τOp (bI0 fun i j => .bool (decide (i < j))) (τLenSet (τVar 3)) (τCB bLen (τCons (τVar 3) τNil)))) (τRet (τC (.bool false))) τNext) τ__are_apart_r1 x { nx := fun _ => Q (.dat .none), rt := Q }, rt := Q }
        ((sets.map maskOf).map nI) [some (.dat (nI n)), some s, some (.own ((famAll n).map nI)), some (.dat (.list ((sets.map maskOf).map nI))), some (.dat (.int 0)), none, none] := by
      refine forL_pre nI (sets.map maskOf) (fun pre ρ => ∃ a, ρ = [some (.dat (nI n)), some s, some (.own ((famAll n).map nI)), some (.dat (.list ((sets.map maskOf).map nI))), some (.dat (nI (famOf pre))), a, none]) ⟨_, rfl⟩ (fun pre m post es ρ kk ⟨a, e1⟩ hk => ?_) fun ρ ⟨a, e1⟩ => ?_
      · subst e1
        have hm : m < 2 ^ n := by
          obtain ⟨t, ht, rfl⟩ := List.mem_map.mp (show m ∈ sets.map maskOf by rw [es]; simp)
          exact ml t ht
        walk_at "dl"
        rw [one_shl, or_nat]
        exact ⟨cshl1 (by omega), hk _ ⟨_, by rw [famOf_snoc]⟩⟩
      · subst e1
        walk_at "dl"
        refine ⟨(sets.map maskOf).map fun n => ((n : Nat) : Int), by rw [List.map_map (f := fun n => ((n : Nat) : Int))]; rfl, by rw [List.length_map, List.length_map]; exact hl, ?_⟩
        have hd := dist_lt (ns := (sets.map maskOf).map fun n => ((n : Nat) : Int))
        rw [nodup_int, masks_nodup ok.up, List.length_map] at hd
        rw [List.length_map]
        split
        · rename_i h3
          refine q false (Iff.intro (fun z => by cases z) fun z => ?_)
          exact absurd z.1 (hd.mp (by omega))
        · rename_i h3
          have hnd : sets.Nodup := Classical.byContradiction fun z => h3 (by have := hd.mpr z; omega)
          refine r1_apart x Q n (famOf (sets.map maskOf)) hn (famOf_lt fun m hm => ?_) _ _ _ _ _ (q _ ?_)
          · obtain ⟨t, ht, rfl⟩ := List.mem_map.mp hm
            exact ml t ht
          · rw [decide_eq_true_eq, apart_iff ok]
            exact ⟨fun z => ⟨hnd, z⟩, fun z => z.2⟩
    rcases hs with rfl | rfl
    · walk_at "dl"
      exact body _ _ _ _ rfl rfl rfl fin
    · walk_at "dl"
      exact body _ _ _ _ rfl rfl rfl fin
  exact main s hs
theorem eqvAll_tups : ∀ A B : List (List Nat), PyData.eqvAll (A.map tup) (B.map tup) = decide (A = B)
  | [], [] => by rw [List.map_nil, PyData.eqvAll]; rfl
  | [], _ :: _ => by rw [List.map_nil, List.map_cons, PyData.eqvAll]; rfl
  | _ :: _, [] => by rw [List.map_nil, List.map_cons, PyData.eqvAll]; rfl
  | a :: A, b :: B => by
    rw [List.map_cons, List.map_cons, PyData.eqvAll, eqv_tup, eqvAll_tups A B, Bool.eq_iff_iff]
    simp only [Bool.and_eq_true, decide_eq_true_eq, List.cons.injEq]
/-- rows of numbers in order -/
def leT (a b : List Nat) : Bool := leD (tup a) (tup b)
def sortT (L : List (List Nat)) : List (List Nat) := L.mergeSort leT
theorem sortD_T (L : List (List Nat)) : sortD (L.map tup) = (sortT L).map tup := (PySem.W.sort_maps tup fun a _ b _ => rfl).symm
theorem sortT_perm (L : List (List Nat)) : (sortT L).Perm L := List.mergeSort_perm L _
theorem map_tup_inj {A B : List (List Nat)} (h : A.map tup = B.map tup) : A = B := by
  have := eqvAll_tups A B
  rw [h, eqvAll_tups B B] at this
  simpa using this
theorem sortT_eq {A B : List (List Nat)} (hA : A.Nodup) (hB : B.Nodup) : sortT A = sortT B ↔ ∀ l, l ∈ A ↔ l ∈ B := by
  constructor
  · intro h l
    rw [← (sortT_perm A).mem_iff, h, (sortT_perm B).mem_iff]
  · intro h
    refine map_tup_inj ?_
    rw [← sortD_T, ← sortD_T]
    exact sortD_tups ((List.perm_ext_iff_of_nodup hA hB).mpr h)
theorem any_nI' (l : List Nat) (k : Nat) : ((l.map nI).any fun z => PyData.eqv z (.int (k : Int))) = decide (k ∈ l) := any_nI l k
theorem mem_compl {n : Nat} {l : List Nat} {k : Nat} : k ∈ compl n l ↔ k < n ∧ k ∉ l := by
  unfold compl
  rw [List.mem_filter, List.mem_range]
  simp
theorem compl_inj {n : Nat} {a b : List Nat} (ha : a.Pairwise (· < ·)) (hb : b.Pairwise (· < ·)) (la : ∀ x ∈ a, x < n) (lb : ∀ x ∈ b, x < n) (h : compl n a = compl n b) : a = b := rising_ext ha hb fun x => by
  have q : x ∈ compl n a ↔ x ∈ compl n b := by rw [h]
  rw [mem_compl, mem_compl] at q
  constructor
  · intro hx
    by_cases hb2 : x ∈ b
    · exact hb2
    · exact absurd hx (q.mpr ⟨la x hx, hb2⟩).2
  · intro hx
    by_cases ha2 : x ∈ a
    · exact ha2
    · exact absurd hx (q.mp ⟨lb x hx, ha2⟩).2
theorem compls_nodup {n : Nat} {sets : List (List Nat)} (ok : SetsOk n sets) (h : sets.Nodup) : (sets.map (compl n)).Nodup := nodup_map (fun a ha b hb e => compl_inj (ok.up a ha) (ok.up b hb) (ok.lt a ha) (ok.lt b hb) e) h
theorem r1_lists (x : Xn) (Q : S → Prop) (n : Nat) (hn : n ≤ 20) (s t : S) (least greatest : List (List Nat)) (okl : SetsOk n least) (hl : least.length ≤ 4000) (okg : SetsOk n greatest) (hg : greatest.length ≤ 4000) (ag : ApartRows greatest) (hs : isSeq s (least.map tup)) (ht : isSeq t (greatest.map tup))
    (q : ∀ L : List (List Nat), L.Nodup → (∀ l, l ∈ L ↔ MinHit least l) → (2000 < L.length → x "TooMany" []) ∧ (L.length ≤ 2000 → ∀ b : Bool, (b = true ↔ ∀ l, l ∈ greatest.map (compl n) ↔ l ∈ L) → Q (.dat (.bool b)))) :
    τ_are_lists_r1 x { nx := fun _ => Q (.dat .none), rt := Q } [some (.dat (nI n)), some s, some t, none, none, none] := by
  have e := sl_eq
  have ok20 : SetsOk 20 least := ⟨okl.up, fun s hs x hx => Nat.lt_of_lt_of_le (okl.lt s hs x hx) hn⟩
  have body : ∀ (s t : S) (γ : DTG) (τt : DTT) (R : List D → Prop) (env : DEnv), γ = γName 4 → τt = τYes → env = [some (.dat (nI n)), some s, some t, none, none, none] → R ((greatest.map (compl n)).map tup) →
      lcL γ τt (τCB bTuple (τCons (τLc (τRng1 (τCons (τVar 0) τNil)) (γName 5) (τTest (τOp (bIn true) (τVar 5) (τVar 4))) (τVar 5) [5]) τNil)) env (greatest.map tup) [] R := by
    intro s t γ τt R env e1 e2 e3 hR
    subst e1 e2 e3
    refine lcL_mapA (fun l => tup (compl n l)) (fun l hl' acc k ha hk => ?_) (by omega) (by rw [List.map_map] at hR; exact hR)
    walk_at "dl"
    refine ⟨by omega, ?_⟩
    rw [Int.toNat_natCast, rg_nI]
    refine lcL_filtA (fun k => !decide (k ∈ l)) nI (fun m hm acc2 k2 ha2 hk2 hk3 => ?_) (by rw [List.length_range]; omega) ⟨ha, hk⟩
    unfold tup
    simp only [γName, τTest, τOp, τVar, lk, stv, bIn, S.d, lcStep, ne_eq, reduceCtorEq, not_false_eq_true, true_and, S.fz, reduceIte, sh_int, any_nI', sh_nIs]
    cases r : !decide (m ∈ l)
    · rw [if_neg (by decide)]; exact hk3 r
    · rw [if_pos rfl]; exact ⟨ha2, hk2 r⟩
  have srt : 2 ≤ (greatest.map (compl n)).length → [] ∉ greatest.map (compl n) := fun h2 hm => by
    obtain ⟨g, h1, h3⟩ := List.mem_map.mp hm
    have full : ∀ k, k < n → k ∈ g := fun k hk => by
      by_cases q : k ∈ g
      · exact q
      · have := mem_compl.mpr ⟨hk, q⟩
        rw [h3] at this; cases this
    have all : ∀ g' ∈ greatest, g' ∈ [g] := fun g' h4 => by
      rw [List.mem_singleton]
      exact ag.2 g' h4 g h1 fun x hx => full x (okg.lt g' h4 x hx)
    have := nodup_le ag.1 all
    rw [List.length_map] at h2
    simp only [List.length_singleton] at this
    omega
  have last : ∀ R : S → Prop, (∀ L : List (List Nat), L.Nodup → (∀ l, l ∈ L ↔ MinHit least l) → L.length ≤ 2000 → R (.dat (.tuple (sortD (L.map tup))))) → ∀ s, isSeq s (least.map tup) → spX_least_hitting [s] x R := fun R h s hs =>
    ⟨s, least, ⟨ok20, hl⟩, rfl, hs, fun L h1 h2 => ⟨h L h1 h2, (q L h1 h2).1⟩⟩
  have eqs : ∀ L : List (List Nat), L.Nodup → (∀ l, l ∈ L ↔ MinHit least l) → L.length ≤ 2000 → Q (.dat (.bool (PyData.eqv (.tuple (sortD ((greatest.map (compl n)).map tup))) (.tuple (sortD (L.map tup)))))) := fun L h1 h2 h3 => by
    refine (q L h1 h2).2 h3 _ ?_
    rw [sortD_T, sortD_T, PyData.eqv, eqvAll_tups, decide_eq_true_eq]
    exact sortT_eq (compls_nodup okg ag.1) h1
  have shT : ∀ L : List (List Nat), shp (.tuple (sortD (L.map tup))) = true := fun L => by
    rw [sortD_T]
    exact (flat_tuple (flat_tups _)).sh (by omega)
  have main : ∀ s t : S, isSeq s (least.map tup) → isSeq t (greatest.map tup) → τ_are_lists_r1 x { nx := fun _ => Q (.dat .none), rt := Q } [some (.dat (nI n)), some s, some t, none, none, none] := by
    intro s t hs ht
    have tail : ∀ s : S, isSeq s (least.map tup) → ∀ t : S, (τRet (τOp bEq (τCB bTuple (τCons (τCB bSorted (τCons (τVar 3) τNil)) τNil)) (τCallX spX_least_hitting (τCons (τVar 1) τNil)))) x { nx := fun _ => Q (.dat .none), rt := Q } [some (.dat (nI n)), some s, some t, some (.own ((greatest.map (compl n)).map tup)), none, none] := by
      intro s hs t
      rcases hs with rfl | rfl
      · walk_at "dl"
        refine bSorted_tups (L := greatest.map (compl n)) rfl srt ?_
        walk_at "dl"
        refine last _ (fun L h1 h2 h3 => ?_) _ (.inl rfl)
        walk_at "dl"
        exact ⟨⟨shT _, shT _⟩, eqs L h1 h2 h3⟩
      · walk_at "dl"
        refine bSorted_tups (L := greatest.map (compl n)) rfl srt ?_
        walk_at "dl"
        refine last _ (fun L h1 h2 h3 => ?_) _ (.inr rfl)
        walk_at "dl"
        exact ⟨⟨shT _, shT _⟩, eqs L h1 h2 h3⟩
    have start : ∀ t : S, isSeq t (greatest.map tup) → τIterB (τVar 2) x [some (.dat (nI n)), some s, some t, none, none, none] fun items => lcL (γName 4) τYes (τCB bTuple (τCons (τLc (τRng1 (τCons (τVar 0) τNil)) (γName 5) (τTest (τOp (bIn true) (τVar 5) (τVar 4))) (τVar 5) [5]) τNil)) [some (.dat (nI n)), some s, some t, none, none, none] items [] fun ds =>
        (τRet (τOp bEq (τCB bTuple (τCons (τCB bSorted (τCons (τVar 3) τNil)) τNil)) (τCallX spX_least_hitting (τCons (τVar 1) τNil)))) x { nx := fun _ => Q (.dat .none), rt := Q } [some (.dat (nI n)), some s, some t, some (.own ds), none, none] := by
      intro t ht
      rcases ht with rfl | rfl
      · exact body _ _ _ _ _ _ rfl rfl rfl (tail s hs _)
      · exact body _ _ _ _ _ _ rfl rfl rfl (tail s hs _)
    exact start t ht
  exact main s t hs ht
theorem sem_are_lists (ss : List S) (x : Xn) (Q : S → Prop) (h : spX_are_lists ss x Q) : τ_are_lists x { nx := fun _ => Q (.dat .none), rt := Q } (DL.envOf ss 6) := by
  obtain ⟨n, s, t, least, greatest, ⟨hn, okl, hl, okg, hg⟩, rfl, hs, ht, q1, q2⟩ := h
  have call : ∀ (s : S) (sets : List (List Nat)) (R : S → Prop), isSeq s (sets.map tup) → SetsOk n sets → sets.length ≤ 4000 → (∀ b : Bool, (b = true ↔ ApartRows sets) → R (.dat (.bool b))) → sp__are_apart [.dat (nI n), s] x0 R := fun s sets R hs ok hl hR => ⟨n, s, sets, ⟨hn, ok, hl⟩, rfl, hs, hR⟩
  have main : ∀ s t : S, isSeq s (least.map tup) → isSeq t (greatest.map tup) → τ_are_lists x { nx := fun _ => Q (.dat .none), rt := Q } [some (.dat (nI n)), some s, some t, none, none, none] := by
    intro s t hs ht
    unfold τ_are_lists
    rcases hs with rfl | rfl
    · rcases ht with rfl | rfl
      · walk_at "dl"
        refine call _ least _ (.inl rfl) okl hl fun b hb => ?_
        walk_at "dl"
        cases b with
        | false => exact q1 fun z => by cases hb.mpr z.1
        | true =>
          rw [if_neg (by decide)]
          refine call _ greatest _ (.inl rfl) okg hg fun b2 hb2 => ?_
          walk_at "dl"
          cases b2 with
          | false => exact q1 fun z => by cases hb2.mpr z.2
          | true => exact r1_lists x Q n hn _ _ least greatest okl hl okg hg (hb2.mp rfl) (.inl rfl) (.inl rfl) fun L h1 h2 => q2 (hb.mp rfl) (hb2.mp rfl) L h1 h2
      · walk_at "dl"
        refine call _ least _ (.inl rfl) okl hl fun b hb => ?_
        walk_at "dl"
        cases b with
        | false => exact q1 fun z => by cases hb.mpr z.1
        | true =>
          rw [if_neg (by decide)]
          refine call _ greatest _ (.inr rfl) okg hg fun b2 hb2 => ?_
          walk_at "dl"
          cases b2 with
          | false => exact q1 fun z => by cases hb2.mpr z.2
          | true => exact r1_lists x Q n hn _ _ least greatest okl hl okg hg (hb2.mp rfl) (.inl rfl) (.inr rfl) fun L h1 h2 => q2 (hb.mp rfl) (hb2.mp rfl) L h1 h2
    · rcases ht with rfl | rfl
      · walk_at "dl"
        refine call _ least _ (.inr rfl) okl hl fun b hb => ?_
        walk_at "dl"
        cases b with
        | false => exact q1 fun z => by cases hb.mpr z.1
        | true =>
          rw [if_neg (by decide)]
          refine call _ greatest _ (.inl rfl) okg hg fun b2 hb2 => ?_
          walk_at "dl"
          cases b2 with
          | false => exact q1 fun z => by cases hb2.mpr z.2
          | true => exact r1_lists x Q n hn _ _ least greatest okl hl okg hg (hb2.mp rfl) (.inr rfl) (.inl rfl) fun L h1 h2 => q2 (hb.mp rfl) (hb2.mp rfl) L h1 h2
      · walk_at "dl"
        refine call _ least _ (.inr rfl) okl hl fun b hb => ?_
        walk_at "dl"
        cases b with
        | false => exact q1 fun z => by cases hb.mpr z.1
        | true =>
          rw [if_neg (by decide)]
          refine call _ greatest _ (.inr rfl) okg hg fun b2 hb2 => ?_
          walk_at "dl"
          cases b2 with
          | false => exact q1 fun z => by cases hb2.mpr z.2
          | true => exact r1_lists x Q n hn _ _ least greatest okl hl okg hg (hb2.mp rfl) (.inr rfl) (.inr rfl) fun L h1 h2 => q2 (hb.mp rfl) (hb2.mp rfl) L h1 h2
  exact main s t hs ht
theorem semX_members (ss : List S) (x : Xn) (Q : S → Prop) (h : spX_members ss x Q) : τX__members x { nx := fun _ => Q (.dat .none), rt := Q } (DL.envOf ss 3) := by
  obtain ⟨n, F, ⟨hn, hF⟩, rfl, q, qx⟩ := h
  have hrl : (rowsOf n F).length = (bitsOf (2 ^ n) F).length := by unfold rowsOf; rw [List.length_map]
  have e := sl_eq
  unfold τX__members τX__members_r1
  walk_at "dl"
  refine ⟨fun m ρ => ∃ (G : Nat) (done : List (List Nat)) (a : Option S), ρ = [some (.dat (nI G)), some (.own (done.map tup)), a] ∧ G < 2 ^ (2 ^ n) ∧ done ++ rowsOf n G = rowsOf n F ∧ done.length ≤ 2000 ∧ m = (bitsOf (2 ^ n) G).length, ⟨_, F, [], _, rfl, hF, rfl, Nat.zero_le _, rfl⟩, ?_⟩
  rintro m ρ ⟨G, done, a, rfl, hG, hr, hd0, hm⟩
  walk_at "dl"
  by_cases h0 : G = 0
  · subst h0
    have : rowsOf n 0 = [] := by unfold rowsOf; rw [bits_zero]; rfl
    rw [this, List.append_nil] at hr
    rw [hr]
    exact q (by rw [← hrl, ← hr]; exact hd0)
  · have hz : ((G : Int) != 0) = true := by simp; exact h0
    rw [hz]
    obtain ⟨k, h1, h2, h3⟩ := bits_step h0 hG
    have hd : done.length + ((bitsOf (2 ^ n) (G &&& (G - 1))).length + 1) = (rowsOf n F).length := by
      have := congrArg List.length hr
      rw [List.length_append] at this
      unfold rowsOf at this ⊢
      rw [List.length_map, List.length_map, h2, List.length_cons] at this
      rw [List.length_map]
      omega
    rw [h2, List.length_cons] at hm
    walk_at "dl"
    rw [List.length_map]
    by_cases h9 : done.length = 2000
    · rw [if_pos (by omega)]
      exact qx (by omega)
    rw [if_neg (by omega), neg_and G h0, h1, bits_pow, xor_nat, low_xor h0 h1]
    have h4 : bitsOf n k :: rowsOf n (G &&& (G - 1)) = rowsOf n G := by unfold rowsOf; rw [h2]; rfl
    refine ⟨k, n, ⟨by have := pow20 hn; have := @Nat.lt_two_pow_self n; omega, h3⟩, by rw [show ((k + 1 : Nat) : Int) - 1 = (k : Int) by omega], ?_⟩
    walk_at "dl"
    refine ⟨by omega, _, (by rw [hm]; exact Nat.lt_succ_self _), G &&& (G - 1), done ++ [bitsOf n k], some (.dat (nI (2 ^ k))), ?_, Nat.lt_of_le_of_lt Nat.and_le_left hG, ?_, by rw [List.length_append, List.length_singleton]; omega, rfl⟩
    · rw [List.map_append]; rfl
    · rw [List.append_assoc, ← hr, ← h4]; rfl
theorem semX_least_hitting (ss : List S) (x : Xn) (Q : S → Prop) (h : spX_least_hitting ss x Q) : τX_least_hitting x { nx := fun _ => Q (.dat .none), rt := Q } (DL.envOf ss 8) := by
  obtain ⟨s0, sets, ⟨ok, hs⟩, rfl, hs0, q⟩ := h
  rcases hs0 with rfl | rfl
  · have e := sl_eq
    unfold τX_least_hitting
    walk_at "dl"
    refine lcL_fmA (fun s : List Nat => s.getLast?.map fun m => nI (m + 1)) sets [] (fun s hs' acc k ha hk => ?_) (by rw [List.length_nil]; omega) ⟨lasts sets, ?_, ?_⟩
    · rcases List.eq_nil_or_concat s with rfl | ⟨l, b, rfl⟩
      · unfold tup
        walk_at "dl"
        simpa using hk
      · rw [List.concat_eq_append] at hk ⊢
        unfold tup
        rw [List.map_append, List.map_cons, List.map_nil]
        walk_at "dl"
        rw [atI_last]
        walk_at "dl"
        rw [show (l ++ [b]).getLast? = some b by simp] at hk
        rw [if_pos (by simp)]
        exact ⟨ha, hk⟩
    · rw [List.nil_append]
      congr 1
      unfold lasts
      rw [List.map_filterMap]
      congr 1
      funext s
      cases s.getLast? <;> rfl
    · show sp__families_without [S.dat (.int (sizeI (lasts sets)))] _ _
      obtain ⟨n, hn, h20, ok'⟩ := size_ok ok
      rw [hn]
      refine ⟨n, h20, rfl, ?_⟩
      walk_at "dl"
      have hz : ∀ {α : Type} (f : Int → α), f (sizeI (lasts sets)) = f n := fun f => by rw [hn]
      change CShl 1 (sizeI (lasts sets)) ∧ forL _ _ _ _ _ [_, some (.dat (.int (sizeI (lasts sets)))), _, some (.dat (.int (1 * 2 ^ (sizeI (lasts sets)).toNat - 1))), _, _, _, _]
      rw [hn, one_shl, pow_m1]
      refine ⟨cshl1 (by omega), ?_⟩
      have h2n := pow20 h20
      refine forL_pre tup sets (fun pre ρ => ∃ a, ρ = [some (.dat (.list (sets.map tup))), some (.dat (nI n)), some (.own ((famAll n).map nI)), some (.dat (nI (2 ^ n - 1))), some (.dat (nI (missing0 n pre))), a, none, none]) ⟨_, rfl⟩ (fun pre s post es ρ kk ⟨a, e1⟩ hk => ?_) fun ρ ⟨a, e1⟩ => ?_
      · subst e1
        have hs' : s ∈ sets := by rw [es]; simp
        have hup := ok'.up s hs'
        have hlt := ok'.lt s hs'
        walk_at "dl"
        refine ⟨s, ⟨by have := up_len hup hlt; omega, fun m hm' => by have := hlt m hm'; omega⟩, rfl, ?_⟩
        walk_at "dl"
        have hc := compl_lt (up_nodup hup) hlt
        rw [xor_nat, one_shl, or_nat]
        exact ⟨cshl1 (by omega), hk _ ⟨_, by rw [missing0_snoc]⟩⟩
      · subst e1
        walk_at "dl"
        refine ⟨n, missing0 n sets, ⟨h20, missing0_lt ok'⟩, rfl, rfl, ?_⟩
        walk_at "dl"
        rw [one_shl]
        have hp : CShl 1 ((2 ^ n : Nat) : Int) := cshl1 (by omega)
        refine ⟨cshl1 (by omega), hp, ?_⟩
        rw [one_shl, pow_m1, xor_nat]
        refine ⟨n, hitting n sets, ⟨h20, hitting_lt ok'⟩, rfl, rfl, ?_⟩
        walk_at "dl"
        change spX_members [S.dat (.int (Builtin.bitXor ((hitting n sets : Nat) : Int) (Builtin.bitAnd ((hitting n sets : Nat) : Int) _)))] _ _
        rw [and_nat, xor_nat]
        have hrow : ∀ l, l ∈ rowsOf n (least n sets) ↔ MinHit sets l := rows_least ok'
        have hql := q _ (rows_nodup n (least n sets)) hrow
        refine ⟨n, least n sets, ⟨h20, least_lt ok'⟩, rfl, fun hlen => ?_, fun hlen => hql.2 (by unfold rowsOf; rw [List.length_map]; exact hlen)⟩
        walk_at "dl"
        refine bSorted_tups (L := rowsOf n (least n sets)) rfl (fun h2 hn' => ?_) ?_
        · have h0 := (hrow []).mp hn'
          have hall : ∀ l ∈ rowsOf n (least n sets), l = [] := fun l hl => minHit_nil h0 ((hrow l).mp hl)
          have := nodup_le (rows_nodup n (least n sets)) (m := [[]]) fun l hl => by rw [hall l hl]; exact List.mem_cons_self
          simp at this
          omega
        · walk_at "dl"
          exact hql.1 (by unfold rowsOf; rw [List.length_map]; exact hlen)
  · have e := sl_eq
    unfold τX_least_hitting
    walk_at "dl"
    refine lcL_fmA (fun s : List Nat => s.getLast?.map fun m => nI (m + 1)) sets [] (fun s hs' acc k ha hk => ?_) (by rw [List.length_nil]; omega) ⟨lasts sets, ?_, ?_⟩
    · rcases List.eq_nil_or_concat s with rfl | ⟨l, b, rfl⟩
      · unfold tup
        walk_at "dl"
        simpa using hk
      · rw [List.concat_eq_append] at hk ⊢
        unfold tup
        rw [List.map_append, List.map_cons, List.map_nil]
        walk_at "dl"
        rw [atI_last]
        walk_at "dl"
        rw [show (l ++ [b]).getLast? = some b by simp] at hk
        rw [if_pos (by simp)]
        exact ⟨ha, hk⟩
    · rw [List.nil_append]
      congr 1
      unfold lasts
      rw [List.map_filterMap]
      congr 1
      funext s
      cases s.getLast? <;> rfl
    · show sp__families_without [S.dat (.int (sizeI (lasts sets)))] _ _
      obtain ⟨n, hn, h20, ok'⟩ := size_ok ok
      rw [hn]
      refine ⟨n, h20, rfl, ?_⟩
      walk_at "dl"
      have hz : ∀ {α : Type} (f : Int → α), f (sizeI (lasts sets)) = f n := fun f => by rw [hn]
      change CShl 1 (sizeI (lasts sets)) ∧ forL _ _ _ _ _ [_, some (.dat (.int (sizeI (lasts sets)))), _, some (.dat (.int (1 * 2 ^ (sizeI (lasts sets)).toNat - 1))), _, _, _, _]
      rw [hn, one_shl, pow_m1]
      refine ⟨cshl1 (by omega), ?_⟩
      have h2n := pow20 h20
      refine forL_pre tup sets (fun pre ρ => ∃ a, ρ = [some (.dat (.tuple (sets.map tup))), some (.dat (nI n)), some (.own ((famAll n).map nI)), some (.dat (nI (2 ^ n - 1))), some (.dat (nI (missing0 n pre))), a, none, none]) ⟨_, rfl⟩ (fun pre s post es ρ kk ⟨a, e1⟩ hk => ?_) fun ρ ⟨a, e1⟩ => ?_
      · subst e1
        have hs' : s ∈ sets := by rw [es]; simp
        have hup := ok'.up s hs'
        have hlt := ok'.lt s hs'
        walk_at "dl"
        refine ⟨s, ⟨by have := up_len hup hlt; omega, fun m hm' => by have := hlt m hm'; omega⟩, rfl, ?_⟩
        walk_at "dl"
        have hc := compl_lt (up_nodup hup) hlt
        rw [xor_nat, one_shl, or_nat]
        exact ⟨cshl1 (by omega), hk _ ⟨_, by rw [missing0_snoc]⟩⟩
      · subst e1
        walk_at "dl"
        refine ⟨n, missing0 n sets, ⟨h20, missing0_lt ok'⟩, rfl, rfl, ?_⟩
        walk_at "dl"
        rw [one_shl]
        have hp : CShl 1 ((2 ^ n : Nat) : Int) := cshl1 (by omega)
        refine ⟨cshl1 (by omega), hp, ?_⟩
        rw [one_shl, pow_m1, xor_nat]
        refine ⟨n, hitting n sets, ⟨h20, hitting_lt ok'⟩, rfl, rfl, ?_⟩
        walk_at "dl"
        change spX_members [S.dat (.int (Builtin.bitXor ((hitting n sets : Nat) : Int) (Builtin.bitAnd ((hitting n sets : Nat) : Int) _)))] _ _
        rw [and_nat, xor_nat]
        have hrow : ∀ l, l ∈ rowsOf n (least n sets) ↔ MinHit sets l := rows_least ok'
        have hql := q _ (rows_nodup n (least n sets)) hrow
        refine ⟨n, least n sets, ⟨h20, least_lt ok'⟩, rfl, fun hlen => ?_, fun hlen => hql.2 (by unfold rowsOf; rw [List.length_map]; exact hlen)⟩
        walk_at "dl"
        refine bSorted_tups (L := rowsOf n (least n sets)) rfl (fun h2 hn' => ?_) ?_
        · have h0 := (hrow []).mp hn'
          have hall : ∀ l ∈ rowsOf n (least n sets), l = [] := fun l hl => minHit_nil h0 ((hrow l).mp hl)
          have := nodup_le (rows_nodup n (least n sets)) (m := [[]]) fun l hl => by rw [hall l hl]; exact List.mem_cons_self
          simp at this
          omega
        · walk_at "dl"
          exact hql.1 (by unfold rowsOf; rw [List.length_map]; exact hlen)
end Law

set_option Elab.async false
set_option linter.all false
set_option maxRecDepth 100000
set_option maxHeartbeats 4000000
namespace Law
open PySem PySem.Spec PyProof.Rows L2 DL Mb
/-! the mathematics of k48 -/
def partsN (ns : List Nat) (k : Nat) : List (List Nat) := (subs ns).filter fun l => decide (l.length = k)
theorem parts_all (ns : List Nat) (k : Nat) : AllParts ns k (partsN ns k) := ⟨fun l => by
  unfold partsN Mb.IsPart
  rw [List.mem_filter, (subs_facts ns).2, decide_eq_true_eq]⟩
def rowsL (lots : List (List Nat × Nat)) : List (List Nat) := lots.flatMap fun p => partsN p.1 p.2
def hitStep (F : List (List Nat)) (p : List Nat × Nat) : List (List Nat) := F.flatMap fun one => (partsN p.1 (p.1.length - p.2 + 1)).map fun lot => one ++ lot
def hitsL (lots : List (List Nat × Nat)) : List (List Nat) := lots.foldl hitStep [[]]
def manyL (lots : List (List Nat × Nat)) : Nat := lots.foldl (fun m p => m * (partsN p.1 (p.1.length - p.2 + 1)).length) 1
theorem rowsL_snoc (lots : List (List Nat × Nat)) (p : List Nat × Nat) : rowsL (lots ++ [p]) = rowsL lots ++ partsN p.1 p.2 := by
  unfold rowsL
  rw [List.flatMap_append, List.flatMap_cons, List.flatMap_nil, List.append_nil]
theorem hitsL_snoc (lots : List (List Nat × Nat)) (p : List Nat × Nat) : hitsL (lots ++ [p]) = hitStep (hitsL lots) p := by
  unfold hitsL
  rw [List.foldl_append]
  rfl
theorem manyL_snoc (lots : List (List Nat × Nat)) (p : List Nat × Nat) : manyL (lots ++ [p]) = manyL lots * (partsN p.1 (p.1.length - p.2 + 1)).length := by
  unfold manyL
  rw [List.foldl_append]
  rfl
theorem mem_hitStep {F : List (List Nat)} {p : List Nat × Nat} {l : List Nat} : l ∈ hitStep F p ↔ ∃ a b, a ∈ F ∧ Mb.IsPart p.1 (p.1.length - p.2 + 1) b ∧ l = a ++ b := by
  unfold hitStep
  rw [List.mem_flatMap]
  constructor
  · rintro ⟨a, h1, h2⟩
    obtain ⟨b, h3, rfl⟩ := List.mem_map.mp h2
    exact ⟨a, b, h1, ((parts_all _ _).mem b).mp h3, rfl⟩
  · rintro ⟨a, b, h1, h3, rfl⟩
    exact ⟨a, h1, List.mem_map.mpr ⟨b, ((parts_all _ _).mem b).mpr h3, rfl⟩⟩
theorem hits_many (lots : List (List Nat × Nat)) : (hitsL lots).length = manyL lots := by
  refine snoc_ind (P := fun lots => (hitsL lots).length = manyL lots) rfl (fun lots p ih => ?_) lots
  rw [hitsL_snoc, manyL_snoc, ← ih]
  unfold hitStep
  generalize hitsL lots = F
  induction F with
  | nil => simp
  | cons a F ihF => rw [List.flatMap_cons, List.length_append, List.length_map, ihF, List.length_cons, Nat.succ_mul, Nat.add_comm]
structure LotOk (p : List Nat × Nat) : Prop where
  up : p.1.Pairwise (· < ·)
  pos : 0 < p.2
  le : p.2 ≤ p.1.length
  lt : ∀ x ∈ p.1, x < 20
structure LotsOk (lots : List (List Nat × Nat)) : Prop where
  ok : ∀ p ∈ lots, LotOk p
  ap : lots.Pairwise fun p q => ∀ x ∈ p.1, x ∉ q.1
theorem LotsOk.snoc {lots : List (List Nat × Nat)} {p : List Nat × Nat} (h : LotsOk (lots ++ [p])) : LotsOk lots ∧ LotOk p ∧ ∀ q ∈ lots, ∀ x ∈ q.1, x ∉ p.1 := by
  have h1 := List.pairwise_append.mp h.ap
  exact ⟨⟨fun q hq => h.ok q (by simp [hq]), h1.1⟩, h.ok p (by simp), fun q hq x hx => h1.2.2 q hq p (by simp) x hx⟩
theorem part_in {ns : List Nat} {k : Nat} {l : List Nat} (h : Mb.IsPart ns k l) : ∀ x ∈ l, x ∈ ns := fun x hx => h.1.subset hx
theorem hitsL_in {lots : List (List Nat × Nat)} : ∀ a ∈ hitsL lots, ∀ x ∈ a, ∃ p ∈ lots, x ∈ p.1 := by
  refine snoc_ind (P := fun lots => ∀ a ∈ hitsL lots, ∀ x ∈ a, ∃ p ∈ lots, x ∈ p.1) (fun a ha x hx => ?_) (fun lots p ih a ha x hx => ?_) lots
  · have : a = [] := by simpa [hitsL] using ha
    rw [this] at hx; cases hx
  · rw [hitsL_snoc] at ha
    obtain ⟨c, b, h1, h2, rfl⟩ := mem_hitStep.mp ha
    rcases List.mem_append.mp hx with q | q
    · obtain ⟨r, h3, h4⟩ := ih c h1 x q
      exact ⟨r, by simp [h3], h4⟩
    · exact ⟨p, by simp, part_in h2 x q⟩
theorem rowsL_in {lots : List (List Nat × Nat)} : ∀ s ∈ rowsL lots, ∀ x ∈ s, ∃ p ∈ lots, x ∈ p.1 := fun s hs x hx => by
  obtain ⟨p, h1, h2⟩ := List.mem_flatMap.mp hs
  exact ⟨p, h1, part_in (((parts_all _ _).mem s).mp h2) x hx⟩
theorem hitsL_nd {lots : List (List Nat × Nat)} (h : LotsOk lots) : ∀ a ∈ hitsL lots, a.Nodup := by
  revert h
  refine snoc_ind (P := fun lots => LotsOk lots → ∀ a ∈ hitsL lots, a.Nodup) (fun _ a ha => ?_) (fun lots p ih h a ha => ?_) lots
  · have : a = [] := by simpa [hitsL] using ha
    rw [this]; exact List.nodup_nil
  · rw [hitsL_snoc] at ha
    obtain ⟨c, b, h1, h2, rfl⟩ := mem_hitStep.mp ha
    obtain ⟨h3, h4, h5⟩ := h.snoc
    refine List.nodup_append.mpr ⟨ih h3 c h1, (up_nodup h4.up).sublist h2.1, fun x hx y hy e => ?_⟩
    obtain ⟨q, hq, hxq⟩ := hitsL_in c h1 x hx
    exact h5 q hq x hxq (part_in h2 x (e ▸ hy))
theorem hitsL_ext {lots : List (List Nat × Nat)} (h : LotsOk lots) : ∀ a ∈ hitsL lots, ∀ b ∈ hitsL lots, (∀ x, x ∈ a ↔ x ∈ b) → a = b := by
  revert h
  refine snoc_ind (P := fun lots => LotsOk lots → ∀ a ∈ hitsL lots, ∀ b ∈ hitsL lots, (∀ x, x ∈ a ↔ x ∈ b) → a = b) (fun _ a ha b hb _ => ?_) (fun lots p ih h a ha b hb e => ?_) lots
  · have h1 : a = [] := by simpa [hitsL] using ha
    have h2 : b = [] := by simpa [hitsL] using hb
    rw [h1, h2]
  · rw [hitsL_snoc] at ha hb
    obtain ⟨c, u, h1, h2, rfl⟩ := mem_hitStep.mp ha
    obtain ⟨d, v, h6, h7, rfl⟩ := mem_hitStep.mp hb
    obtain ⟨h3, h4, h5⟩ := h.snoc
    have out : ∀ c ∈ hitsL lots, ∀ x ∈ c, x ∉ p.1 := fun c hc x hx => by
      obtain ⟨q, hq, hxq⟩ := hitsL_in c hc x hx
      exact h5 q hq x hxq
    have e1 : ∀ x, x ∈ c ↔ x ∈ d := fun x => by
      have hx := e x
      rw [List.mem_append, List.mem_append] at hx
      constructor
      · intro q
        rcases hx.mp (.inl q) with r | r
        · exact r
        · exact absurd (part_in h7 x r) (out c h1 x q)
      · intro q
        rcases hx.mpr (.inl q) with r | r
        · exact r
        · exact absurd (part_in h2 x r) (out d h6 x q)
    have e2 : u = v := rising_ext (h4.up.sublist h2.1) (h4.up.sublist h7.1) fun x => by
      have hx := e x
      rw [List.mem_append, List.mem_append] at hx
      constructor
      · intro q
        rcases hx.mp (.inr q) with r | r
        · exact absurd (part_in h2 x q) (out d h6 x r)
        · exact r
      · intro q
        rcases hx.mpr (.inr q) with r | r
        · exact absurd (part_in h7 x q) (out c h1 x r)
        · exact r
    rw [ih h3 c h1 d h6 e1, e2]
theorem partsN_nodup {ns : List Nat} (h : ns.Nodup) (k : Nat) : (partsN ns k).Nodup := (subs_nodup h).filter _
theorem hitsL_nodup {lots : List (List Nat × Nat)} (h : LotsOk lots) : (hitsL lots).Nodup := by
  revert h
  refine snoc_ind (P := fun lots => LotsOk lots → (hitsL lots).Nodup) (fun _ => by simp [hitsL]) (fun lots p ih h => ?_) lots
  obtain ⟨h3, h4, h5⟩ := h.snoc
  have hh := h
  rw [hitsL_snoc]
  unfold hitStep
  refine List.pairwise_flatMap.mpr ⟨fun a _ => nodup_map (fun n _ m _ e => List.append_cancel_left e) (partsN_nodup (up_nodup h4.up) _), (List.Pairwise.imp_of_mem (fun {a b} ha hb hab x hx y hy e => ?_) (ih h3))⟩
  obtain ⟨u, hu, rfl⟩ := List.mem_map.mp hx
  obtain ⟨v, hv, rfl⟩ := List.mem_map.mp hy
  have hu' := ((parts_all _ _).mem u).mp hu
  have hv' := ((parts_all _ _).mem v).mp hv
  have hlen : a.length = b.length := by
    have := congrArg List.length e
    rw [List.length_append, List.length_append, hu'.2, hv'.2] at this
    omega
  exact hab (List.append_inj e hlen).1
theorem hitsL_min {lots : List (List Nat × Nat)} (h : LotsOk lots) (l : List Nat) : MinHit (rowsL lots) l ↔ l ∈ (hitsL lots).map sortN := by
  revert h l
  refine snoc_ind (P := fun lots => LotsOk lots → ∀ l, MinHit (rowsL lots) l ↔ l ∈ (hitsL lots).map sortN) (fun _ l => ?_) (fun lots p ih h l => ?_) lots
  · show MinHit [] l ↔ l ∈ [sortN []]
    rw [minHit_none, show sortN [] = [] by simp [sortN]]
  · obtain ⟨h3, h4, h5⟩ := h.snoc
    rw [rowsL_snoc, hitsL_snoc, List.mem_map]
    have hA : ∀ s ∈ rowsL lots, ∀ x ∈ s, (!decide (x ∈ p.1)) = true := fun s hs x hx => by
      obtain ⟨q, hq, hxq⟩ := rowsL_in s hs x hx
      simp [h5 q hq x hxq]
    have hB : ∀ s ∈ partsN p.1 p.2, ∀ x ∈ s, (!decide (x ∈ p.1)) = false := fun s hs x hx => by
      simp [part_in (((parts_all _ _).mem s).mp hs) x hx]
    have out : ∀ c ∈ hitsL lots, ∀ x ∈ c, x ∉ p.1 := fun c hc x hx => by
      obtain ⟨q, hq, hxq⟩ := hitsL_in c hc x hx
      exact h5 q hq x hxq
    constructor
    · intro hm
      obtain ⟨m1, m2⟩ := (side_min (fun x => !decide (x ∈ p.1)) hA hB hm.1).mp hm
      obtain ⟨a, ha, ea⟩ := List.mem_map.mp ((ih h3 _).mp m1)
      have hb := (parts_min h4.up h4.pos h4.le (parts_all _ _) _).mp m2
      have hl : (a ++ l.filter fun x => !!decide (x ∈ p.1)) ∈ hitStep (hitsL lots) p := mem_hitStep.mpr ⟨a, _, ha, hb, rfl⟩
      refine ⟨_, hl, rising_ext (sortN_up (by rw [← hitsL_snoc] at hl; exact hitsL_nd h _ hl)) hm.1 fun x => ?_⟩
      rw [mem_sortN, List.mem_append]
      have e1 : x ∈ a ↔ x ∈ l.filter fun x => !decide (x ∈ p.1) := by rw [← ea, mem_sortN]
      rw [e1, List.mem_filter, List.mem_filter]
      by_cases q : x ∈ p.1 <;> simp [q]
    · rintro ⟨ab, hl, rfl⟩
      have hnd := hitsL_nd h ab (by rw [hitsL_snoc]; exact hl)
      obtain ⟨a, b, ha, hb, rfl⟩ := mem_hitStep.mp hl
      have hup := sortN_up hnd
      refine (side_min (fun x => !decide (x ∈ p.1)) hA hB hup).mpr ⟨?_, ?_⟩
      · rw [ih h3]
        refine List.mem_map.mpr ⟨a, ha, rising_ext (sortN_up (hitsL_nd h3 a ha)) (hup.filter _) fun x => ?_⟩
        rw [mem_sortN, List.mem_filter, mem_sortN, List.mem_append]
        by_cases q : x ∈ p.1
        · have : x ∉ a := fun hx => out a ha x hx q
          simp [q, this]
        · have : x ∉ b := fun hx => q (part_in hb x hx)
          simp [q, this]
      · refine (parts_min h4.up h4.pos h4.le (parts_all _ _) _).mpr ?_
        have e : (sortN (a ++ b)).filter (fun x => !!decide (x ∈ p.1)) = b := rising_ext (hup.filter _) (h4.up.sublist hb.1) fun x => by
          rw [List.mem_filter, mem_sortN, List.mem_append]
          by_cases q : x ∈ p.1
          · have : x ∉ a := fun hx => out a ha x hx q
            simp [q, this]
          · have : x ∉ b := fun hx => q (part_in hb x hx)
            simp [q, this]
        rw [e]
        exact hb
theorem hitsL_sorted_nodup {lots : List (List Nat × Nat)} (h : LotsOk lots) : ((hitsL lots).map sortN).Nodup :=
  nodup_map (fun a ha b hb e => hitsL_ext h a ha b hb fun x => by rw [← mem_sortN, e, mem_sortN]) (hitsL_nodup h)
/-! further facts -/
theorem rowsL_ok {lots : List (List Nat × Nat)} (h : LotsOk lots) : SetsOk 20 (rowsL lots) := ⟨fun s hs => by
    obtain ⟨p, h1, h2⟩ := List.mem_flatMap.mp hs
    exact (h.ok p h1).up.sublist (((parts_all _ _).mem s).mp h2).1, fun s hs x hx => by
    obtain ⟨p, h1, h2⟩ := rowsL_in s hs x hx
    exact (h.ok p h1).lt x h2⟩
theorem rowsL_apart {lots : List (List Nat × Nat)} (h : LotsOk lots) : ApartRows (rowsL lots) := by
  have ne : ∀ p ∈ lots, ∀ s ∈ partsN p.1 p.2, s ≠ [] := fun p hp s hs e => by
    have := (((parts_all _ _).mem s).mp hs).2
    rw [e] at this
    have := (h.ok p hp).pos
    simp at *
    omega
  have one : ∀ p ∈ lots, ∀ q ∈ lots, ∀ x, x ∈ p.1 → x ∈ q.1 → p = q := fun p hp q hq x hx hy => by
    obtain ⟨i, hi, rfl⟩ := List.mem_iff_getElem.mp hp
    obtain ⟨j, hj, rfl⟩ := List.mem_iff_getElem.mp hq
    have pw := List.pairwise_iff_getElem.mp h.ap
    rcases Nat.lt_trichotomy i j with q | q | q
    · exact absurd hy (pw i j hi hj q x hx)
    · subst q; rfl
    · exact absurd hx (pw j i hj hi q x hy)
  constructor
  · unfold rowsL
    refine List.pairwise_flatMap.mpr ⟨fun p hp => partsN_nodup (up_nodup (h.ok p hp).up) _, List.Pairwise.imp_of_mem (fun {p q} hp hq hpq s hs t ht e => ?_) h.ap⟩
    cases s with
    | nil => exact ne p hp [] hs rfl
    | cons x r => exact hpq x (part_in (((parts_all _ _).mem _).mp hs) x List.mem_cons_self) (part_in (((parts_all _ _).mem _).mp ht) x (e ▸ List.mem_cons_self))
  · intro s hs t ht hst
    obtain ⟨p, h1, h2⟩ := List.mem_flatMap.mp hs
    obtain ⟨q, h3, h4⟩ := List.mem_flatMap.mp ht
    have h2' := ((parts_all _ _).mem s).mp h2
    have h4' := ((parts_all _ _).mem t).mp h4
    cases s with
    | nil => exact absurd rfl (ne p h1 [] h2)
    | cons x r =>
      have e : p = q := one p h1 q h3 x (part_in h2' x List.mem_cons_self) (part_in h4' x (hst x List.mem_cons_self))
      subst e
      have us := (h.ok p h1).up.sublist h2'.1
      have ut := (h.ok p h1).up.sublist h4'.1
      refine rising_ext us ut fun y => ⟨hst y, fun hy => ?_⟩
      by_cases q : y ∈ x :: r
      · exact q
      · exfalso
        have : (y :: x :: r).length ≤ t.length := nodup_le (List.nodup_cons.mpr ⟨q, up_nodup us⟩) fun z hz => by
          rcases List.mem_cons.mp hz with rfl | hz
          · exact hy
          · exact hst z hz
        rw [List.length_cons, h2'.2, h4'.2] at this
        omega
theorem compl_up (n : Nat) (l : List Nat) : (compl n l).Pairwise (· < ·) := List.Pairwise.filter _ List.pairwise_lt_range
theorem compl_compl {n : Nat} {l : List Nat} (h : l.Pairwise (· < ·)) (hl : ∀ x ∈ l, x < n) : compl n (compl n l) = l := rising_ext (compl_up _ _) h fun x => by
  rw [mem_compl, mem_compl]
  constructor
  · rintro ⟨h1, h2⟩
    by_cases q : x ∈ l
    · exact q
    · exact absurd ⟨h1, q⟩ h2
  · exact fun q => ⟨hl x q, fun z => z.2 q⟩
theorem minHit_anti {rows : List (List Nat)} {a b : List Nat} (ha : MinHit rows a) (hb : MinHit rows b) (h : ∀ x ∈ a, x ∈ b) : a = b := rising_ext ha.1 hb.1 fun x => ⟨h x, fun hx => by
  by_cases q : x ∈ a
  · exact q
  · refine absurd (fun s hs => ?_) (hb.2.2 x hx)
    obtain ⟨y, h1, h2⟩ := ha.2.1 s hs
    exact ⟨y, h1, List.mem_filter.mpr ⟨h y h2, decide_eq_true (fun e : y = x => q (e ▸ h2))⟩⟩⟩
theorem minHit_lt {rows : List (List Nat)} {n : Nat} (ok : SetsOk n rows) {l : List Nat} (h : MinHit rows l) : ∀ x ∈ l, x < n := (minHit_mask ok h).1
/-- the complements of all least hitting sets -/
theorem compls_ok {rows M : List (List Nat)} (ok : SetsOk 20 rows) (hn : M.Nodup) (hM : ∀ l, l ∈ M → MinHit rows l) : SetsOk 20 (M.map (compl 20)) ∧ ApartRows (M.map (compl 20)) := by
  refine ⟨⟨fun s hs => ?_, fun s hs x hx => ?_⟩, nodup_map (fun a ha b hb e => compl_inj (hM a ha).1 (hM b hb).1 (minHit_lt ok (hM a ha)) (minHit_lt ok (hM b hb)) e) hn, fun s hs t ht hst => ?_⟩
  · obtain ⟨a, _, rfl⟩ := List.mem_map.mp hs
    exact compl_up _ _
  · obtain ⟨a, _, rfl⟩ := List.mem_map.mp hs
    exact (mem_compl.mp hx).1
  · obtain ⟨a, ha, rfl⟩ := List.mem_map.mp hs
    obtain ⟨b, hb, rfl⟩ := List.mem_map.mp ht
    rw [minHit_anti (hM b hb) (hM a ha) fun x hx => ?_]
    by_cases q : x ∈ a
    · exact q
    · exact absurd hx (mem_compl.mp (hst x (mem_compl.mpr ⟨minHit_lt ok (hM b hb) x hx, q⟩))).2
theorem partsN_two {ns : List Nat} {j : Nat} (hu : ns.Pairwise (· < ·)) (h1 : 0 < j) (h2 : j < ns.length) : 2 ≤ (partsN ns j).length := by
  have ha : ns.take j ∈ partsN ns j := ((parts_all ns j).mem _).mpr ⟨List.take_sublist _ _, by rw [List.length_take]; omega⟩
  have hb : (ns.drop 1).take j ∈ partsN ns j := ((parts_all ns j).mem _).mpr ⟨(List.take_sublist _ _).trans (List.drop_sublist _ _), by rw [List.length_take, List.length_drop]; omega⟩
  have hne : ns.take j ≠ (ns.drop 1).take j := fun e => by
    cases ns with
    | nil => simp at h2
    | cons x r =>
      have hx : x ∈ (x :: r).take j := by
        cases j with
        | zero => omega
        | succ j => simp
      rw [e] at hx
      have hxr : x ∈ r := List.mem_of_mem_take hx
      exact absurd ((List.pairwise_cons.mp hu).1 x hxr) (Nat.lt_irrefl x)
  have := nodup_le (l := [ns.take j, (ns.drop 1).take j]) (m := partsN ns j) (List.nodup_cons.mpr ⟨fun hm => hne (List.mem_singleton.mp hm), by simp⟩) fun a h => by
    rcases List.mem_cons.mp h with rfl | h
    · exact ha
    · rw [List.mem_singleton.mp h]; exact hb
  simpa using this
theorem many_pow {lots : List (List Nat × Nat)} (h : ∀ p ∈ lots, LotOk p ∧ 2 ≤ p.2) : 2 ^ lots.length ≤ manyL lots := by
  revert h
  refine snoc_ind (P := fun lots => (∀ p ∈ lots, LotOk p ∧ 2 ≤ p.2) → 2 ^ lots.length ≤ manyL lots) (fun _ => by simp [manyL]) (fun lots p ih h => ?_) lots
  rw [manyL_snoc, List.length_append, List.length_singleton, Nat.pow_succ]
  obtain ⟨h1, h2⟩ := h p (by simp)
  have := partsN_two (j := p.1.length - p.2 + 1) h1.up (by omega) (by have := h1.le; omega)
  exact Nat.mul_le_mul (ih fun q hq => h q (by simp [hq])) this
end Law

set_option Elab.async false
set_option linter.all false
set_option maxRecDepth 100000
set_option maxHeartbeats 4000000
namespace Law
open PySem PySem.Spec PyProof.Rows L2 DL Mb
/-- every number of a is in b -/
def isW (a b : List Nat) : Bool := a.all fun n => decide (n ∈ b)
def apartB (rows : List (List Nat)) : Bool := (List.range rows.length).all fun k => ((List.range rows.length).filter fun j => decide (j ≠ k) && isW (rows.getD j []) (rows.getD k [])).isEmpty
/-- the least ones, in the order of rows -/
def minOf (sets : List (List Nat)) (one : List Nat) : Bool := (sets.filter fun o => decide (o ≠ one) && isW o one).isEmpty
def leastStep (sets : List (List Nat)) (found : List (List Nat)) (one : List Nat) : List (List Nat) := if minOf sets one && !decide (one ∈ found) then found ++ [one] else found
def leastOf (sets : List (List Nat)) : List (List Nat) := (sortT sets).foldl (leastStep sets) []
def goodB (least : List (List Nat)) (l : List Nat) : Bool := (least.filter fun one => isW one l).isEmpty
def goodL (n : Nat) (least : List (List Nat)) : List (List Nat) := (subs (List.range n)).filter (goodB least)
def maxB (n : Nat) (G : List (List Nat)) (l : List Nat) : Bool := ((List.range n).filter fun m => !decide (m ∈ l) && decide (sortN (l ++ [m]) ∈ G)).isEmpty
def maxL (n : Nat) (least : List (List Nat)) : List (List Nat) := (goodL n least).filter (maxB n (goodL n least))
def dueB (n : Nat) (A B : List (List Nat)) : Bool := apartB A && apartB B && decide (sortT (maxL n A) = sortT B)
abbrev Short (L : List (List Nat)) : Prop := L.length ≤ 1000 ∧ ∀ r ∈ L, r.length ≤ 1000
def sp__law_is_within : DSp := fun ss _ Q => ∃ a b : List Nat, (a.length ≤ 1000 ∧ b.length ≤ 1000) ∧ ss = [.dat (tup a), .dat (tup b)] ∧ Q (.dat (.bool (isW a b)))
def sp__law_are_apart : DSp := fun ss _ Q => ∃ rows : List (List Nat), Short rows ∧ ss = [.dat (.tuple (rows.map tup))] ∧ Q (.dat (.bool (apartB rows)))
def sp__law_least_of : DSp := fun ss _ Q => ∃ sets : List (List Nat), Short sets ∧ ss = [.dat (.list (sets.map tup))] ∧ Q (.own ((leastOf sets).map tup))
def sp__law_greatest : DSp := fun ss _ Q => ∃ (n : Nat) (s : S) (least : List (List Nat)), (n ≤ 8 ∧ Short least) ∧ ss = [.dat (nI n), s] ∧ isSeq s (least.map tup) ∧ Q (.own ((sortT (maxL n least)).map tup))
def sp__law_due : DSp := fun ss _ Q => ∃ (n : Nat) (A B : List (List Nat)), (n ≤ 8 ∧ Short A ∧ Short B ∧ ∀ r ∈ B, r.Pairwise (· < ·)) ∧ ss = [.dat (nI n), .dat (.tuple (A.map tup)), .dat (.tuple (B.map tup))] ∧ Q (.dat (.bool (dueB n A B)))
def listsD (A B : List (List Nat)) : D := .tuple [.tuple (A.map tup), .tuple (B.map tup)]
abbrev RowsIn (n m : Nat) (A : List (List Nat)) : Prop := SetsOk n A ∧ A.length ≤ m
def sp__law_bent : DSp := fun ss _ Q => ∃ (n m : Nat) (A B : List (List Nat)), (n ≤ 7 ∧ m ≤ 900 ∧ RowsIn n m A ∧ RowsIn n m B) ∧ ss = [.tok, .dat (nI n), .dat (listsD A B)] ∧ ∀ A' B', RowsIn n (m + 10) A' → RowsIn n (m + 10) B' → Q (.dat (listsD A' B'))
-- N [(0, 'sets'), (1, 'found'), (2, 'one'), (3, 'within'), (4, 'other'), (5, 'n')] {'one'} set()
def τ__law_least_of : DTS :=
  (τSeq (τAsg (τLst τNil) (γName 1))
    (τSeq (τFor (τIter (τCB bSortR (τCons (τVar 0) τNil))) (γName 2)
    (τSeq (τAsg (τLc (τIterB (τVar 0)) (γName 4) (τAnd (τTest (τOp bNe (τVar 4) (τVar 2))) (τTest (τOp bEq (τLc (τIterB (τVar 4)) (γName 5) (τTest (τOp (bIn true) (τVar 5) (τVar 2))) (τVar 5) [5]) (τLst τNil)))) (τVar 4) [4]) (γName 3))
    (τIfS (τAnd (τTest (τOp bEq (τVar 3) (τLst τNil))) (τTest (τOp (bIn true) (τVar 2) (τVar 1))))
    (τApp 1 (τVar 2))
    τNext)))
    (τRetV 1)))
-- N [(0, 'one'), (1, 'other'), (2, 'n')] {'other'} set()
def τ__law_is_within : DTS :=
  (τRet (τOp bEq (τLc (τIterB (τVar 0)) (γName 2) (τTest (τOp (bIn true) (τVar 2) (τVar 1))) (τVar 2) [2]) (τLst τNil)))
-- N [(0, 'rows'), (1, 'k'), (2, 'j')] {'k', 'rows'} set()
def τ__law_are_apart : DTS :=
  (τSeq (τFor (τRng1 (τCons (τCB bLen (τCons (τVar 0) τNil)) τNil)) (γName 1)
    (τIfS (τTest (τOp bNe (τLc (τRng1 (τCons (τCB bLen (τCons (τVar 0) τNil)) τNil)) (γName 2) (τAnd (τTest (τOp bNe (τVar 2) (τVar 1))) (τTru (τCall sp__law_is_within (τCons (τOp bIx (τVar 0) (τVar 2)) (τCons (τOp bIx (τVar 0) (τVar 1)) τNil))))) (τVar 2) [2]) (τLst τNil)))
    (τRet (τC (.bool false)))
    τNext))
    (τRet (τC (.bool true))))
-- N [(0, 'size'), (1, 'least'), (2, 'good'), (3, 'lot'), (4, 'found'), (5, 'more'), (6, 'one'), (7, 'n')] {'lot', 'good'} set()
def τ__law_greatest : DTS :=
  (τSeq (τAsg (τDNew true) (γName 2))
    (τSeq (τFor (τIter (τCall sp__law_subsets (τCons (τLstRg (τRg1 (τVar 0))) τNil))) (γName 3)
    (τIfS (τTest (τOp bEq (τLc (τIterB (τVar 1)) (γName 6) (τTru (τCall sp__law_is_within (τCons (τVar 6) (τCons (τVar 3) τNil)))) (τVar 6) [6]) (τLst τNil)))
    (τDPut 2 (τVar 3) (τC (.bool true)))
    τNext))
    (τSeq (τAsg (τLst τNil) (γName 4))
    (τFrzD 2 (τSeq (τFor (τIter (τVar 2)) (γName 3)
    (τSeq (τAsg (τLc (τRng1 (τCons (τVar 0) τNil)) (γName 7) (τAnd (τTest (τOp (bIn true) (τVar 7) (τVar 3))) (τTest (τOp (bIn false) (τCB bTuple (τCons (τCB bSorted (τCons (τOp bPlus (τVar 3) (τTup (τCons (τVar 7) τNil))) τNil)) τNil)) (τVar 2)))) (τVar 7) [7]) (γName 5))
    (τIfS (τTest (τOp bEq (τVar 5) (τLst τNil)))
    (τApp 4 (τVar 3))
    τNext)))
    (τRet (τCB bSorted (τCons (τVar 4) τNil))))))))
-- N [(0, 'size'), (1, 'least'), (2, 'greatest'), (3, 'one')] set() set()
def τ__law_due_r1 : DTS :=
  (τRet (τOp bEq (τCall sp__law_greatest (τCons (τVar 0) (τCons (τVar 1) τNil))) (τCB bSorted (τCons (τLc (τIterB (τVar 2)) (γName 3) τYes (τCB bTuple (τCons (τCB bSorted (τCons (τVar 3) τNil)) τNil)) [3]) τNil))))
def τ__law_due : DTS :=
  (τSeq (τIfS (τOr (τNot (τTru (τCall sp__law_are_apart (τCons (τVar 1) τNil)))) (τNot (τTru (τCall sp__law_are_apart (τCons (τVar 2) τNil)))))
    (τRet (τC (.bool false)))
    τNext)
    τ__law_due_r1)
-- N [(0, 'flow'), (1, 'size'), (2, 'lists'), (3, 'which'), (4, 'rows'), (5, 'at'), (6, 'some'), (7, 'way'), (8, 'one'), (9, 'more'), (10, 'n')] {'one'} set()
def τ__law_bent_r1 : DTS :=
  (τRet (τIf (τTest (τOp bEq (τVar 3) (τC (.int 0)))) (τTup (τCons (τCB bTuple (τCons (τVar 4) τNil)) (τCons (τOp bIx (τVar 2) (τC (.int 1))) τNil))) (τTup (τCons (τOp bIx (τVar 2) (τC (.int 0))) (τCons (τCB bTuple (τCons (τVar 4) τNil)) τNil)))))
def τ__law_bent_r2 : DTS :=
  (τSeq (τIfS (τTest (τOp bEq (τVar 7) (τC (.int 8))))
    (τAsg (τOp bPlus (τVar 4) (τLst (τCons (τTup τNil) τNil))) (γName 4))
    τNext)
    τ__law_bent_r1)
def τ__law_bent_r3 : DTS :=
  (τIfS (τTest (τOp bEq (τVar 7) (τC (.int 6))))
    (τAsg (τCall sp__law_mixed (τCons (τVar 0) (τCons (τOp bPlus (τVar 4) (τLst (τCons (τVar 8) (τCons (τVar 6) τNil)))) τNil))) (γName 4))
    τNext)
def τ__law_bent_r4 : DTS :=
  (τSeq (τIfS (τTest (τOp bEq (τVar 7) (τC (.int 5))))
    (τAsg (τOp bPlus (τLst (τCons (τSl (τVar 8) τNoPart (τPart (τUn (fun i => -i) (τC (.int 1))))) τNil)) (τVar 4)) (γName 4))
    τNext)
    τ__law_bent_r3)
def τ__law_bent_r5 : DTS :=
  (τSeq (τIfS (τTest (τOp bEq (τVar 7) (τC (.int 4))))
    (τAsg (τOp bPlus (τVar 4) (τLst (τCons (τVar 8) (τCons (τVar 8) τNil)))) (γName 4))
    τNext)
    τ__law_bent_r4)
def τ__law_bent_r6 : DTS :=
  (τSeq (τIfS (τTest (τOp bEq (τVar 7) (τC (.int 3))))
    (τApp 4 (τCB bTuple (τCons (τCB bSorted (τCons (τOp bPlus (τVar 8) (τCB bTuple (τCons (τSl (τVar 9) τNoPart (τPart (τC (.int 1)))) τNil))) τNil)) τNil)))
    τNext)
    τ__law_bent_r5)
def τ__law_bent_r7 : DTS :=
  (τSeq (τIfS (τTest (τOp bEq (τVar 7) (τC (.int 2))))
    (τApp 4 (τSl (τVar 8) (τPart (τC (.int 1))) τNoPart))
    τNext)
    τ__law_bent_r6)
def τ__law_bent_r8 : DTS :=
  (τSeq (τIfS (τTest (τOp bEq (τVar 7) (τC (.int 7))))
    (τRet (τTup (τCons (τOp bIx (τVar 2) (τC (.int 1))) (τCons (τOp bIx (τVar 2) (τC (.int 0))) τNil))))
    τNext)
    τ__law_bent_r2)
def τ__law_bent : DTS :=
  (τSeq (τAsg (τCall sp__law_draw (τCons (τVar 0) (τCons (τC (.int 2)) τNil))) (γName 3))
    (τSeq (τAsg (τCB bList (τCons (τOp bIx (τVar 2) (τVar 3)) τNil)) (γName 4))
    (τSeq (τAsg (τCall sp__law_draw (τCons (τVar 0) (τCons (τCB bMax2 (τCons (τC (.int 1)) (τCons (τCB bLen (τCons (τVar 4) τNil)) τNil))) τNil))) (γName 5))
    (τSeq (τAsg (τCB bTuple (τCons (τCB bSorted (τCons (τSl (τCall sp__law_mixed (τCons (τVar 0) (τCons (τLstRg (τRg1 (τVar 1))) τNil))) τNoPart (τPart (τCall sp__law_draw (τCons (τVar 0) (τCons (τOp bPlus (τVar 1) (τC (.int 1))) τNil))))) τNil)) τNil)) (γName 6))
    (τSeq (τAsg (τCall sp__law_draw (τCons (τVar 0) (τCons (τC (.int 9)) τNil))) (γName 7))
    (τSeq (τIfS (τAnd (τTest (τOp bNe (τVar 4) (τLst τNil))) (τTest (τOp (bI0 fun i j => .bool (decide (i < j))) (τVar 7) (τC (.int 7)))))
    (τSeq (τAsg (τOp bIx (τVar 4) (τVar 5)) (γName 8))
    (τSeq (τAsg (τLc (τRng1 (τCons (τVar 1) τNil)) (γName 10) (τTest (τOp (bIn true) (τVar 10) (τVar 8))) (τVar 10) [10]) (γName 9))
    (τSeq (τAsg (τOp bPlus (τSl (τVar 4) τNoPart (τPart (τVar 5))) (τSl (τVar 4) (τPart (τOp bPlus (τVar 5) (τC (.int 1)))) τNoPart)) (γName 4))
    (τSeq (τIfS (τTest (τOp bEq (τVar 7) (τC (.int 1))))
    (τApp 4 (τVar 6))
    τNext)
    τ__law_bent_r7))))
    τNext)
    τ__law_bent_r8))))))
local macro_rules | `(tactic| walk_at "dl") => `(tactic| simp only [τFrzD, τDNew, τDPut, τCallN, bNotB, bIsB, bMin2, bMax2, g3v, τSeq, τAsg, τRet, τRetV, τOp, τC, τVar, τCons, consQ, τNil, τTup, τLst, τCB, τLc, τIterB, τIter, τRng1, τRng2, τPar, τLstRg, τRg1, τRg2, τTest, τTru, tru, τNot, τAnd, τOr, τAndV, τOrV, τNotV, τIf, τIfS, τSl, τPart, τNoPart, τFor, τApp, τExt, τFrz, τNever, τNext, τCall, callQ, anyBor, layAll, S.lay, S.d, S.fz, noBor, γName, lk, stv, DL.envOf, noneL, wipeE, bI0, bI, bPlus, bEq, bNe, bIx, bSl, bLen, bSum, bTuple, bList, bMaxDef, datas, τBits, τUn, τYes, τIsi, dctB, S.liv, lcStep, reduceIte, Bool.false_eq_true, List.length_cons, List.length_nil, Nat.reduceAdd, Nat.sub_self, Nat.reduceSub, true_and, and_true, Nat.zero_le, List.nil_append, ne_eq, reduceCtorEq, not_false_eq_true, ty_tt, ty_ti, ty_bi, ty_si, ty_ii, isNone, bIsN, bNotN, Bool.not_true, Bool.not_false, Bool.true_eq_false, beq_self_eq_true, sh_int, sh_bool, sh_nil, sh_nilT, S.solid, DL.solid, DL.solidAll, eqv_int, eqv_nil, eqv_nilT, and_self, decide_eq_true_eq, Option.map_some])
theorem any_tup (L : List (List Nat)) (l : List Nat) : ((L.map tup).any fun z => PyData.eqv z (tup l)) = decide (l ∈ L) := by
  rw [List.any_map, Bool.eq_iff_iff, List.any_eq_true, decide_eq_true_eq]
  constructor
  · rintro ⟨m, h1, h2⟩
    have h3 : PyData.eqv (tup m) (tup l) = true := h2
    rw [eqv_tup, decide_eq_true_eq] at h3
    exact h3 ▸ h1
  · intro h
    refine ⟨l, h, ?_⟩
    show PyData.eqv (tup l) (tup l) = true
    rw [eqv_tup]
    simp
theorem sh_tup (l : List Nat) : shp (tup l) = true := by
  have h : shp (.tuple (l.map nI)) = true := (flat_tuple (flat_nI l)).sh (by omega)
  exact h
theorem isW_flt (a b : List Nat) : ((a.filter fun n => !decide (n ∈ b)).map nI).isEmpty = isW a b := by
  rw [List.isEmpty_map, flt_nil]
  unfold isW
  congr 1
  funext n
  rw [Bool.not_not]
/-- [n for n in a if n not in b] -/
theorem lc_notin {γ : DTG} {τt : DTT} {τe : DT} {env : DEnv} {i j : Nat} {R : List D → Prop} (a b : List Nat) (e1 : γ = γName i) (e2 : τt = τTest (τOp (bIn true) (τVar i) (τVar j))) (e3 : τe = τVar i) (ha : a.length ≤ 1000)
    (hi : ∀ n : Nat, lk (stv env i (some (.dat (nI n)))) i = some (.dat (nI n))) (hj : ∀ n : Nat, lk (stv env i (some (.dat (nI n)))) j = some (.dat (tup b))) (h : R ((a.filter fun n => !decide (n ∈ b)).map nI)) : lcL γ τt τe env (a.map nI) [] R := by
  have e := sl_eq
  subst e1 e2 e3
  refine lcL_filtA (fun n : Nat => !decide (n ∈ b)) nI (fun n hn acc k ha' hk hk2 => ?_) (by omega) h
  have q1 := hi n
  have q2 := hj n
  simp only [lcStep, γName, τTest, τOp, τVar, q1, q2]
  unfold tup bIn
  walk_at "dl"
  rw [any_nI]
  refine ⟨sh_nIs b, ?_⟩
  cases r : !decide (n ∈ b)
  · rw [if_neg (by decide)]; exact hk2 r
  · rw [if_pos rfl]; exact ⟨ha', hk r⟩
theorem sem__law_is_within (ss : List S) (x : Xn) (Q : S → Prop) (h : sp__law_is_within ss x Q) : τ__law_is_within x { nx := fun _ => Q (.dat .none), rt := Q } (DL.envOf ss 3) := by
  obtain ⟨a, b, ⟨ha, hb⟩, rfl, q⟩ := h
  unfold τ__law_is_within
  have fin : (τRet (τOp bEq (τLc (τIterB (τVar 0)) (γName 2) (τTest (τOp (bIn true) (τVar 2) (τVar 1))) (τVar 2) [2]) (τLst τNil))) x { nx := fun _ => Q (.dat .none), rt := Q } [some (.dat (tup a)), some (.dat (tup b)), none] := by
    refine lc_notin (i := 2) (j := 1) a b rfl rfl rfl ha (fun _ => rfl) (fun _ => rfl) ?_
    walk_at "dl"
    refine ⟨sh_nIs _, ?_⟩
    rw [isW_flt]
    exact q
  exact fin
theorem rows_at' {rows : List (List Nat)} {j : Nat} (h : j < rows.length) : atI (rows.map tup) (j : Int) = some (tup (rows.getD j [])) := by
  rw [DL.atI_nat, List.getElem?_map, List.getElem?_eq_getElem h, List.getD_eq_getElem?_getD, List.getElem?_eq_getElem h]
  rfl
theorem len_getD {rows : List (List Nat)} (h : ∀ r ∈ rows, r.length ≤ 1000) (j : Nat) : (rows.getD j []).length ≤ 1000 := by
  rw [List.getD_eq_getElem?_getD]
  cases r : rows[j]? with
  | none => exact Nat.zero_le _
  | some l => exact h l (List.mem_of_getElem? r)
theorem sem__law_are_apart (ss : List S) (x : Xn) (Q : S → Prop) (h : sp__law_are_apart ss x Q) : τ__law_are_apart x { nx := fun _ => Q (.dat .none), rt := Q } (DL.envOf ss 3) := by
  obtain ⟨rows, ⟨hl, hr⟩, rfl, q⟩ := h
  have e := sl_eq
  unfold τ__law_are_apart
  walk_at "dl"
  rw [List.length_map]
  refine ⟨by omega, ?_⟩
  rw [Int.toNat_natCast]
  let P : Nat → Bool := fun k => ((List.range rows.length).filter fun j => decide (j ≠ k) && isW (rows.getD j []) (rows.getD k [])).isEmpty
  have hq : apartB rows = (List.range rows.length).all P := rfl
  refine forL_rng 0 rows.length (fun k ρ => (∃ a b, ρ = [some (.dat (.tuple (rows.map tup))), a, b]) ∧ ∀ i < k, P i = true) ⟨⟨_, _, rfl⟩, fun i hi => absurd hi (by omega)⟩ (fun k hk ρ kk ⟨⟨a, b, e1⟩, hP⟩ hkk => ?_) fun ρ ⟨⟨a, b, e1⟩, hP⟩ => ?_
  · subst e1
    rw [Int.zero_add]
    walk_at "dl"
    rw [List.length_map]
    refine ⟨by omega, ?_⟩
    rw [Int.toNat_natCast, rg_nI]
    refine lcL_filtA (fun j : Nat => decide (j ≠ k) && isW (rows.getD j []) (rows.getD k [])) nI (fun j hj acc k' ha' hk1 hk2 => ?_) (by rw [List.length_range]; omega) ?_
    · have hj' := List.mem_range.mp hj
      walk_at "dl"
      by_cases hjk : j = k
      · rw [if_neg (by simp; omega)]
        exact hk2 (by simp [hjk])
      · rw [if_pos (by simp; omega)]
        rw [rows_at' hj']
        walk_at "dl"
        rw [rows_at' hk]
        walk_at "dl"
        refine ⟨_, _, ⟨len_getD hr j, len_getD hr k⟩, rfl, ?_⟩
        walk_at "dl"
        cases r : isW (rows.getD j []) (rows.getD k []) with
        | false => rw [if_neg (by decide)]; exact hk2 (by rw [r, Bool.and_false])
        | true => rw [if_pos rfl]; exact ⟨ha', hk1 (by rw [r, Bool.and_true]; exact decide_eq_true hjk)⟩
    · refine ⟨sh_nIs _, ?_⟩
      rw [List.isEmpty_map]
      cases r : P k with
      | false =>
        have r' : ((List.range rows.length).filter fun j => decide (j ≠ k) && isW (rows.getD j []) (rows.getD k [])).isEmpty = false := r
        rw [r', if_pos (by decide)]
        have : apartB rows = false := by
          rw [hq, List.all_eq_false]
          exact ⟨k, List.mem_range.mpr hk, by rw [r]; decide⟩
        rw [this] at q
        exact q
      | true =>
        have r' : ((List.range rows.length).filter fun j => decide (j ≠ k) && isW (rows.getD j []) (rows.getD k [])).isEmpty = true := r
        rw [r', if_neg (by decide)]
        exact hkk _ ⟨⟨_, _, rfl⟩, fun i hi => by
          rcases Nat.lt_succ_iff_lt_or_eq.mp hi with hi | rfl
          · exact hP i hi
          · exact r⟩
  · subst e1
    walk_at "dl"
    have : apartB rows = true := by
      rw [hq, List.all_eq_true]
      exact fun i hi => hP i (List.mem_range.mp hi)
    rw [this] at q
    exact q
theorem sortT_len (L : List (List Nat)) : (sortT L).length = L.length := (sortT_perm L).length_eq
theorem leastStep_no {sets F : List (List Nat)} {one : List Nat} (h : (minOf sets one && !decide (one ∈ F)) = false) : leastStep sets F one = F := by
  unfold leastStep
  rw [h, if_neg (by decide)]
theorem leastStep_yes {sets F : List (List Nat)} {one : List Nat} (h : (minOf sets one && !decide (one ∈ F)) = true) : leastStep sets F one = F ++ [one] := by
  unfold leastStep
  rw [h, if_pos rfl]
theorem leastStep_len (sets found : List (List Nat)) (one : List Nat) : (leastStep sets found one).length ≤ found.length + 1 := by
  unfold leastStep
  split
  · rw [List.length_append]; exact Nat.le_refl _
  · omega
theorem leastFold_len (sets : List (List Nat)) : ∀ (l found : List (List Nat)), (l.foldl (leastStep sets) found).length ≤ found.length + l.length
  | [], found => by simp
  | a :: l, found => by
    have h1 := leastFold_len sets l (leastStep sets found a)
    have h2 := leastStep_len sets found a
    rw [List.foldl_cons, List.length_cons]
    omega
theorem sem__law_least_of (ss : List S) (x : Xn) (Q : S → Prop) (h : sp__law_least_of ss x Q) : τ__law_least_of x { nx := fun _ => Q (.dat .none), rt := Q } (DL.envOf ss 6) := by
  obtain ⟨sets, ⟨hl, hr⟩, rfl, q⟩ := h
  have e := sl_eq
  unfold τ__law_least_of
  walk_at "dl"
  refine ⟨sets, rfl, ?_⟩
  rw [sortD_T]
  refine forL_pre tup (sortT sets) (fun pre ρ => ∃ a b c d, ρ = [some (.dat (.list (sets.map tup))), some (.own ((pre.foldl (leastStep sets) []).map tup)), a, b, c, d]) ⟨_, _, _, _, rfl⟩ (fun pre one post es ρ kk ⟨a, b, c, d, e1⟩ hkk => ?_) fun ρ ⟨a, b, c, d, e1⟩ => ?_
  · subst e1
    have hone : one ∈ sets := (sortT_perm sets).mem_iff.mp (by rw [es]; simp)
    have hlen : (pre.foldl (leastStep sets) []).length ≤ 1000 := by
      have h1 := leastFold_len sets pre []
      have h2 := congrArg List.length es
      rw [sortT_len, List.length_append, List.length_cons] at h2
      rw [List.length_nil] at h1
      omega
    walk_at "dl"
    refine lcL_filtA (fun o : List Nat => decide (o ≠ one) && isW o one) tup (fun o ho acc k ha' hk1 hk2 => ?_) (by omega) ?_
    · simp only [lcStep, γName, τAnd, τTest, τOp, τVar, lk, stv, bNe, S.d, eqv_tup, ne_eq, reduceCtorEq, not_false_eq_true, true_and]
      refine ⟨⟨sh_tup o, sh_tup one⟩, ?_⟩
      by_cases hoo : o = one
      · rw [if_neg (by simp [hoo])]
        exact hk2 (by simp [hoo])
      · rw [if_pos (by simp [hoo])]
        refine lc_notin (i := 5) (j := 2) o one rfl rfl rfl (hr o ho) (fun _ => rfl) (fun _ => rfl) ?_
        walk_at "dl"
        refine ⟨sh_nIs _, ?_⟩
        rw [isW_flt]
        cases r : isW o one with
        | false => rw [if_neg (by decide)]; exact hk2 (by rw [r, Bool.and_false])
        | true => rw [if_pos rfl]; exact ⟨ha', hk1 (by rw [r, Bool.and_true]; exact decide_eq_true hoo)⟩
    · walk_at "dl"
      refine ⟨sh_tups _, ?_⟩
      rw [List.isEmpty_map]
      have hm : (sets.filter fun o => decide (o ≠ one) && isW o one).isEmpty = minOf sets one := rfl
      rw [hm]
      have step : ∀ F, F = leastStep sets (pre.foldl (leastStep sets) []) one → (pre ++ [one]).foldl (leastStep sets) [] = F := fun F hF => by
        rw [List.foldl_append, hF]; rfl
      cases r : minOf sets one with
      | false =>
        rw [if_neg (by decide)]
        refine hkk _ ⟨_, _, _, _, by rw [step _ rfl, leastStep_no (by rw [r, Bool.false_and])]⟩
      | true =>
        rw [if_pos rfl]
        unfold bIn
        walk_at "dl"
        rw [any_tup]
        refine ⟨⟨sh_tup one, sh_tups _⟩, ?_⟩
        cases r2 : decide (one ∈ pre.foldl (leastStep sets) []) with
        | true =>
          rw [if_neg (by decide)]
          refine hkk _ ⟨_, _, _, _, by rw [step _ rfl, leastStep_no (by rw [r2, Bool.not_true, Bool.and_false])]⟩
        | false =>
          rw [if_pos (by decide)]
          rw [List.length_map]
          refine ⟨by omega, hkk _ ⟨_, _, _, _, by rw [step _ rfl, leastStep_yes (by rw [r, r2]; rfl), List.map_append]; rfl⟩⟩
  · subst e1
    walk_at "dl"
    exact q
theorem iterB_seq {i : Nat} {x : Xn} {env : DEnv} {s : S} {ds : List D} {R : List D → Prop} (h : lk env i = some s) (hs : isSeq s ds) (hR : R ds) : τIterB (τVar i) x env R := by
  rcases hs with rfl | rfl
  · unfold τIterB τVar
    rw [h]
    exact hR
  · unfold τIterB τVar
    rw [h]
    exact hR
theorem subs_up {n : Nat} {l : List Nat} (h : l ∈ subs (List.range n)) : l.Pairwise (· < ·) ∧ (∀ x ∈ l, x < n) ∧ l.length ≤ n := by
  have q := ((subs_facts (List.range n)).2 l).mp h
  refine ⟨List.pairwise_lt_range.sublist q, fun x hx => List.mem_range.mp (q.subset hx), ?_⟩
  have := q.length_le
  rw [List.length_range] at this
  exact this
theorem subs_of {n : Nat} {l : List Nat} (h1 : l.Pairwise (· < ·)) (h2 : ∀ x ∈ l, x < n) : l ∈ subs (List.range n) := by
  refine ((subs_facts (List.range n)).2 l).mpr ?_
  have e := sub_eq (ns := List.range n) List.pairwise_lt_range h1 fun x hx => List.mem_range.mpr (h2 x hx)
  rw [e]
  exact List.filter_sublist
theorem subs_small {n : Nat} (h : n ≤ 8) : (subs (List.range n)).length ≤ 256 := by
  rw [(subs_facts (List.range n)).1, List.length_range]
  exact Nat.le_trans (Nat.pow_le_pow_right (n := 2) (by omega) h) (by decide)
theorem goodB_iff {least : List (List Nat)} {l : List Nat} : goodB least l = true ↔ ∀ one ∈ least, ∃ x ∈ one, x ∉ l := by
  unfold goodB isW
  rw [flt_nil, List.all_eq_true]
  refine forall_congr' fun one => forall_congr' fun _ => ?_
  rw [Bool.not_eq_true', List.all_eq_false]
  simp
theorem goodB_mono {least : List (List Nat)} {a b : List Nat} (h : ∀ x ∈ a, x ∈ b) (hb : goodB least b = true) : goodB least a = true := goodB_iff.mpr fun one ho => by
  obtain ⟨x, h1, h2⟩ := goodB_iff.mp hb one ho
  exact ⟨x, h1, fun z => h2 (h x z)⟩
theorem mem_goodL {n : Nat} {least : List (List Nat)} {l : List Nat} : l ∈ goodL n least ↔ (l.Pairwise (· < ·) ∧ ∀ x ∈ l, x < n) ∧ goodB least l = true := by
  unfold goodL
  rw [List.mem_filter]
  exact ⟨fun ⟨h1, h2⟩ => ⟨⟨(subs_up h1).1, (subs_up h1).2.1⟩, h2⟩, fun ⟨⟨h1, h2⟩, h3⟩ => ⟨subs_of h1 h2, h3⟩⟩
theorem maxB_iff {n : Nat} {G : List (List Nat)} {l : List Nat} : maxB n G l = true ↔ ∀ m, m < n → m ∉ l → sortN (l ++ [m]) ∉ G := by
  unfold maxB
  rw [flt_nil, List.all_eq_true]
  constructor
  · intro h m hm hl hG
    have := h m (List.mem_range.mpr hm)
    rw [decide_eq_false hl, decide_eq_true hG] at this
    cases this
  · intro h m hm
    by_cases hl : m ∈ l
    · rw [decide_eq_true hl]; rfl
    · rw [decide_eq_false hl, decide_eq_false (h m (List.mem_range.mp hm) hl)]; rfl
theorem goodL_nodup (n : Nat) (least : List (List Nat)) : (goodL n least).Nodup := (subs_nodup (up_nodup List.pairwise_lt_range)).filter _
theorem maxL_nodup (n : Nat) (least : List (List Nat)) : (maxL n least).Nodup := (goodL_nodup n least).filter _
theorem maxL_small {n : Nat} (h : n ≤ 8) (least : List (List Nat)) : (maxL n least).length ≤ 256 := Nat.le_trans (List.length_filter_le _ _) (Nat.le_trans (List.length_filter_le _ _) (subs_small h))
theorem maxL_nil {n : Nat} {least : List (List Nat)} (h2 : 2 ≤ (maxL n least).length) : [] ∉ maxL n least := by
  intro h0
  have hmax := maxB_iff.mp (List.mem_filter.mp h0).2
  have all : ∀ l ∈ maxL n least, l ∈ [[]] := fun l hl => by
    have hg := mem_goodL.mp (List.mem_filter.mp hl).1
    cases l with
    | nil => exact List.mem_cons_self
    | cons a l =>
      have hs : sortN [a] = [a] := sortN_of (.refl _) (by simp)
      refine absurd (mem_goodL.mpr ⟨⟨List.pairwise_singleton _ _, fun x hx => by rw [List.mem_singleton.mp hx]; exact hg.1.2 a List.mem_cons_self⟩, goodB_mono (fun x hx => by rw [List.mem_singleton.mp hx]; exact List.mem_cons_self) hg.2⟩) ?_
      have := hmax a (hg.1.2 a List.mem_cons_self) (fun z => by cases z)
      rw [List.nil_append, hs] at this
      exact this
  have := nodup_le (maxL_nodup n least) all
  rw [List.length_singleton] at this
  omega
theorem rg_ok {n : Nat} (h : n ≤ 8) : RgOk 0 (n : Int) := by
  unfold RgOk
  have e := sl_eq
  omega
def goodKv (l : List Nat) : D × D := (tup l, .bool true)
theorem keyTup (l : List Nat) : ∃ ks : List Key, tup l = .tuple (ks.map keyD) := ⟨l.map fun n : Nat => .inl (n : Int), by unfold tup; rw [List.map_map]; rfl⟩
theorem goodKv_keys (L : List (List Nat)) : (L.map goodKv).map Prod.fst = L.map tup := by
  rw [List.map_map]; rfl
theorem mem_tups {L : List (List Nat)} {l : List Nat} : tup l ∈ L.map tup ↔ l ∈ L := by
  constructor
  · intro h
    obtain ⟨m, h1, h2⟩ := List.mem_map.mp h
    have h3 := eqv_tup m l
    rw [h2, eqv_tup] at h3
    simp at h3
    exact h3 ▸ h1
  · exact fun h => List.mem_map.mpr ⟨l, h, rfl⟩
/-- x in good -/
theorem bIn_good {G : List (List Nat)} {l : List Nat} {Q : S → Prop} (hne : G ≠ []) (h : Q (.dat (.bool (decide (l ∈ G))))) : bIn false (.dat (tup l)) (.dat (.dict (G.map goodKv))) Q := by
  refine ⟨by simp, ⟨_, rfl, .inr ?_⟩, by simpa using hne, fun _ _ z => (by cases z), fun b hb => ?_⟩
  · obtain ⟨ks, e⟩ := keyTup l
    refine ⟨ks, e, fun p hp => ?_⟩
    obtain ⟨m, _, rfl⟩ := List.mem_map.mp hp
    exact keyTup m
  · have e : b = decide (l ∈ G) := by
      rw [Bool.eq_iff_iff, hb, decide_eq_true_eq]
      show tup l ∈ (G.map goodKv).map Prod.fst ↔ l ∈ G
      rw [goodKv_keys]
      exact mem_tups
    subst e
    exact h
theorem bNotIn_tup {m : Nat} {lot : List Nat} {Q : S → Prop} (h : Q (.dat (.bool (!decide (m ∈ lot))))) : bIn true (.dat (nI m)) (.dat (tup lot)) Q := by
  unfold bIn tup
  walk_at "dl"
  rw [any_nI]
  exact ⟨sh_nIs _, h⟩
/-- tuple(sorted(lot + (m,))) -/
theorem ext_tup {x : Xn} {env : DEnv} {lot : List Nat} {m : Nat} {R : S → Prop} (h3 : lk env 3 = some (.dat (tup lot))) (h7 : lk env 7 = some (.dat (nI m))) (hl : lot.length ≤ 100) (h : R (.dat (tup (sortN (lot ++ [m]))))) :
    τCB bTuple (τCons (τCB bSorted (τCons (τOp bPlus (τVar 3) (τTup (τCons (τVar 7) τNil))) τNil)) τNil) x env R := by
  have e := sl_eq
  simp only [τCB, τCons, τOp, τVar, h3, h7, τTup, τNil, consQ, datas]
  unfold tup
  walk_at "dl"
  refine ⟨by omega, by rw [List.length_map]; omega, bSorted_nIT (l := lot ++ [m]) (by rw [List.map_append]; rfl) ?_⟩
  exact h
theorem sem__law_greatest (ss : List S) (x : Xn) (Q : S → Prop) (h : sp__law_greatest ss x Q) : τ__law_greatest x { nx := fun _ => Q (.dat .none), rt := Q } (DL.envOf ss 8) := by
  obtain ⟨n, s, least, ⟨hn, hl, hr⟩, rfl, hs, q⟩ := h
  have e := sl_eq
  unfold τ__law_greatest
  walk_at "dl"
  refine ⟨rg_ok hn, List.range n, by rw [List.length_range]; exact hn, by rw [Int.sub_zero, Int.toNat_natCast, rg_nI], ?_⟩
  walk_at "dl"
  have hsm := subs_small hn
  refine forL_pre tup (subs (List.range n)) (fun pre ρ => ∃ a, ρ = [some (.dat (nI n)), some s, some (.dct true ((pre.filter (goodB least)).map goodKv)), a, none, none, none, none]) ⟨_, rfl⟩ (fun pre lot post es ρ kk ⟨a, e1⟩ hkk => ?_) fun ρ ⟨a, e1⟩ => ?_
  · subst e1
    have hlot := subs_up (n := n) (l := lot) (by rw [es]; simp)
    walk_at "dl"
    have hnew : tup lot ∉ ((pre.filter (goodB least)).map goodKv).map Prod.fst := by
      rw [goodKv_keys]
      intro hm
      have h1 := (List.mem_filter.mp (mem_tups.mp hm)).1
      have h2 : (subs (List.range n)).Nodup := subs_nodup (up_nodup List.pairwise_lt_range)
      rw [es] at h2
      exact (List.nodup_append.mp h2).2.2 lot h1 lot List.mem_cons_self rfl
    have hlen : ((pre.filter (goodB least)).map goodKv).length < sizeLine := by
      have h1 := congrArg List.length es
      have h2 := List.length_filter_le (goodB least) pre
      rw [List.length_append, List.length_cons] at h1
      rw [List.length_map]
      omega
    have fin : lcL (γName 6) (τTru (τCall sp__law_is_within (τCons (τVar 6) (τCons (τVar 3) τNil)))) (τVar 6)
        [some (S.dat (nI n)), some s, some (S.dct true ((pre.filter (goodB least)).map goodKv)), some (S.dat (tup lot)), none, none, none, none] (least.map tup) [] fun ds =>
        shp (PyData.list ds) = true ∧ if ds.isEmpty = true then KeyOk true (tup lot) ∧ ((pre.filter (goodB least)).map goodKv).length < sizeLine ∧
            kk [some (S.dat (nI n)), some s, some (S.dct true (dput ((pre.filter (goodB least)).map goodKv) (tup lot) (PyData.bool true))), some (S.dat (tup lot)), none, none, none, none]
          else kk [some (S.dat (nI n)), some s, some (S.dct true ((pre.filter (goodB least)).map goodKv)), some (S.dat (tup lot)), none, none, none, none] := by
      refine lcL_filtA (fun one : List Nat => isW one lot) tup (fun one ho acc k ha' hk1 hk2 => ?_) (by omega) ?_
      · walk_at "dl"
        refine ⟨one, lot, ⟨hr one ho, by omega⟩, rfl, ?_⟩
        walk_at "dl"
        cases r : isW one lot with
        | false => rw [if_neg (by decide)]; exact hk2 r
        | true => rw [if_pos rfl]; exact ⟨ha', hk1 r⟩
      · refine ⟨sh_tups _, ?_⟩
        rw [List.isEmpty_map]
        cases r : goodB least lot with
        | false =>
          have r' : (least.filter fun one => isW one lot).isEmpty = false := r
          rw [r', if_neg (by decide)]
          refine hkk _ ⟨some (S.dat (tup lot)), ?_⟩
          rw [List.filter_append, List.filter_cons, r, if_neg (by decide), List.filter_nil, List.append_nil]
        | true =>
          have r' : (least.filter fun one => isW one lot).isEmpty = true := r
          rw [r', if_pos rfl]
          refine ⟨keyTup lot, hlen, hkk _ ⟨some (S.dat (tup lot)), ?_⟩⟩
          rw [List.filter_append, List.filter_cons, r, if_pos rfl, List.filter_nil, dput_new hnew, List.map_append]
          rfl
    rcases hs with rfl | rfl
    · exact fin
    · exact fin
  · subst e1
    walk_at "dl"
    have hG : (subs (List.range n)).filter (goodB least) = goodL n least := rfl
    rw [hG, goodKv_keys]
    have hGl : (goodL n least).length ≤ 256 := Nat.le_trans (List.length_filter_le _ _) hsm
    refine forL_pre tup (goodL n least) (fun pre ρ => ∃ a b, ρ = [some (.dat (nI n)), some s, some (.dat (.dict ((goodL n least).map goodKv))), a, some (.own ((pre.filter (maxB n (goodL n least))).map tup)), b, none, none]) ⟨_, _, rfl⟩ (fun pre lot post es ρ kk ⟨a, b, e1⟩ hkk => ?_) fun ρ ⟨a, b, e1⟩ => ?_
    · subst e1
      have hlotG : lot ∈ goodL n least := by rw [es]; simp
      have hlot := subs_up (n := n) (List.mem_filter.mp hlotG).1
      have hne : goodL n least ≠ [] := fun z => by rw [z] at hlotG; cases hlotG
      have hlen : ((pre.filter (maxB n (goodL n least))).map tup).length < sizeLine := by
        have h1 := congrArg List.length es
        have h2 := List.length_filter_le (maxB n (goodL n least)) pre
        rw [List.length_append, List.length_cons] at h1
        rw [List.length_map]
        omega
      walk_at "dl"
      refine ⟨by omega, ?_⟩
      rw [Int.toNat_natCast, rg_nI]
      refine lcL_filtA (fun m : Nat => !decide (m ∈ lot) && decide (sortN (lot ++ [m]) ∈ goodL n least)) nI (fun m hm acc k ha' hk1 hk2 => ?_) (by rw [List.length_range]; omega) ?_
      · simp only [lcStep, γName, τAnd, τTest, τOp, τVar, lk, stv, wipeE]
        refine bNotIn_tup ?_
        dsimp only
        by_cases hml : m ∈ lot
        · rw [decide_eq_true hml, if_neg (by decide), if_neg (by decide)]
          exact hk2 (by rw [decide_eq_true hml]; rfl)
        · rw [decide_eq_false hml, if_pos (by decide)]
          refine ext_tup rfl rfl (by omega) (bIn_good hne ?_)
          dsimp only
          cases r : decide (sortN (lot ++ [m]) ∈ goodL n least) with
          | false => rw [if_neg (by decide)]; exact hk2 (by rw [r, Bool.and_false])
          | true => rw [if_pos rfl]; exact ⟨ha', hk1 (by rw [r, decide_eq_false hml]; rfl)⟩
      · refine ⟨sh_nIs _, ?_⟩
        rw [List.isEmpty_map]
        have hm : ((List.range n).filter fun m => !decide (m ∈ lot) && decide (sortN (lot ++ [m]) ∈ goodL n least)).isEmpty = maxB n (goodL n least) lot := rfl
        rw [hm]
        cases r : maxB n (goodL n least) lot with
        | false =>
          rw [if_neg (by decide)]
          have e2 : (pre ++ [lot]).filter (maxB n (goodL n least)) = pre.filter (maxB n (goodL n least)) := by
            rw [List.filter_append, List.filter_cons, r, if_neg (by decide), List.filter_nil, List.append_nil]
          exact hkk _ ⟨_, _, by rw [e2]⟩
        | true =>
          rw [if_pos rfl]
          have e2 : (pre ++ [lot]).filter (maxB n (goodL n least)) = pre.filter (maxB n (goodL n least)) ++ [lot] := by
            rw [List.filter_append, List.filter_cons, r, if_pos rfl, List.filter_nil]
          exact ⟨hlen, hkk _ ⟨_, _, by rw [e2, List.map_append]; rfl⟩⟩
    · subst e1
      walk_at "dl"
      refine bSorted_tups (L := maxL n least) rfl maxL_nil ?_
      rw [sortD_T]
      exact ⟨trivial, q⟩
theorem isW_iff {a b : List Nat} : isW a b = true ↔ ∀ x ∈ a, x ∈ b := by
  unfold isW
  rw [List.all_eq_true]
  simp
theorem getD_mem {rows : List (List Nat)} {j : Nat} (h : j < rows.length) : rows.getD j [] = rows[j] := by
  rw [List.getD_eq_getElem?_getD, List.getElem?_eq_getElem h]
  rfl
theorem apartB_iff {rows : List (List Nat)} : apartB rows = true ↔ ApartRows rows := by
  unfold apartB ApartRows
  have step : ((List.range rows.length).all fun k => ((List.range rows.length).filter fun j => decide (j ≠ k) && isW (rows.getD j []) (rows.getD k [])).isEmpty) = true ↔ ∀ k (hk : k < rows.length) j (hj : j < rows.length), j ≠ k → ¬ ∀ x ∈ rows[j], x ∈ rows[k] := by
    rw [List.all_eq_true]
    constructor
    · intro h k hk j hj hjk hw
      have := h k (List.mem_range.mpr hk)
      rw [flt_nil, List.all_eq_true] at this
      have := this j (List.mem_range.mpr hj)
      rw [decide_eq_true hjk, Bool.true_and, getD_mem hj, getD_mem hk, isW_iff.mpr hw] at this
      cases this
    · intro h k hk
      have hk := List.mem_range.mp hk
      rw [flt_nil, List.all_eq_true]
      intro j hj
      have hj := List.mem_range.mp hj
      by_cases hjk : j = k
      · rw [decide_eq_false (fun z => z hjk)]; rfl
      · rw [decide_eq_true hjk, Bool.true_and, getD_mem hj, getD_mem hk]
        cases r : isW rows[j] rows[k] with
        | false => rfl
        | true => exact absurd (isW_iff.mp r) (h k hk j hj hjk)
  rw [step]
  constructor
  · intro h
    refine ⟨?_, fun s hs t ht hw => ?_⟩
    · refine List.pairwise_iff_getElem.mpr fun i j hi hj hij e => ?_
      exact h j hj i hi (by omega) fun x hx => e ▸ hx
    · obtain ⟨i, hi, rfl⟩ := List.getElem_of_mem hs
      obtain ⟨j, hj, rfl⟩ := List.getElem_of_mem ht
      by_cases hij : i = j
      · subst hij; rfl
      · exact absurd hw (h j hj i hi hij)
  · rintro ⟨h1, h2⟩ k hk j hj hjk hw
    have e := h2 rows[j] (List.getElem_mem hj) rows[k] (List.getElem_mem hk) hw
    have nd := List.pairwise_iff_getElem.mp h1
    rcases Nat.lt_or_gt_of_ne hjk with h | h
    · exact nd j k hj hk h e
    · exact nd k j hk hj h e.symm
theorem apart_nil {B : List (List Nat)} (h : ApartRows B) (h2 : 2 ≤ B.length) : [] ∉ B := fun h0 => by
  have all : ∀ l ∈ B, l ∈ [[]] := fun l hl => by
    rw [← h.2 [] h0 l hl fun x hx => by cases hx]
    exact List.mem_cons_self
  have := nodup_le h.1 all
  rw [List.length_singleton] at this
  omega
theorem sem__law_due (ss : List S) (x : Xn) (Q : S → Prop) (h : sp__law_due ss x Q) : τ__law_due x { nx := fun _ => Q (.dat .none), rt := Q } (DL.envOf ss 4) := by
  obtain ⟨n, A, B, ⟨hn, hA, hB, hup⟩, rfl, q⟩ := h
  have e := sl_eq
  unfold τ__law_due
  walk_at "dl"
  refine ⟨A, hA, rfl, ?_⟩
  walk_at "dl"
  unfold dueB at q
  cases rA : apartB A with
  | false =>
    rw [rA, Bool.false_and, Bool.false_and] at q
    rw [if_pos (by decide)]
    exact q
  | true =>
    rw [rA, Bool.true_and] at q
    rw [if_neg (by decide)]
    refine ⟨B, hB, rfl, ?_⟩
    walk_at "dl"
    cases rB : apartB B with
    | false =>
      rw [rB, Bool.false_and] at q
      rw [if_pos (by decide)]
      exact q
    | true =>
      rw [rB, Bool.true_and] at q
      rw [if_neg (by decide)]
      unfold τ__law_due_r1
      walk_at "dl"
      refine ⟨n, _, A, ⟨hn, hA⟩, rfl, .inr rfl, ?_⟩
      refine lcL_mapA (fun l : List Nat => tup l) (fun l hl acc k ha hk => ?_) (by have := hB.1; omega) ?_
      · have hll := hB.2 l hl
        walk_at "dl"
        unfold tup
        refine bSorted_nIT (l := l) rfl ?_
        walk_at "dl"
        rw [sortN_of (.refl _) (hup l hl)]
        exact ⟨ha, hk⟩
      · walk_at "dl"
        refine bSorted_tups (L := B) rfl (apart_nil (apartB_iff.mp rB)) ?_
        walk_at "dl"
        rw [sortD_T]
        refine ⟨⟨sh_tups _, sh_tups _⟩, ?_⟩
        rw [PyData.eqv, eqvAll_tups]
        exact q
theorem cut_to {α : Type} (xs : List α) (hi : Option Int) : ∃ k, cutG xs none hi = xs.take k := by
  refine ⟨HT.sIx xs.length xs.length hi - HT.sIx xs.length 0 none, ?_⟩
  unfold cutG
  rw [HT.sIx_none, List.drop_zero]
theorem lists_at0 (A B : List (List Nat)) : atI [PyData.tuple (A.map tup), PyData.tuple (B.map tup)] (0 : Int) = some (.tuple (A.map tup)) := rfl
theorem lists_at1 (A B : List (List Nat)) : atI [PyData.tuple (A.map tup), PyData.tuple (B.map tup)] (1 : Int) = some (.tuple (B.map tup)) := rfl
abbrev RowIn (n : Nat) (l : List Nat) : Prop := l.Pairwise (· < ·) ∧ ∀ x ∈ l, x < n
theorem setsOk_iff {n : Nat} {A : List (List Nat)} : SetsOk n A ↔ ∀ l ∈ A, RowIn n l := ⟨fun h l hl => ⟨h.up l hl, h.lt l hl⟩, fun h => ⟨fun l hl => (h l hl).1, fun l hl => (h l hl).2⟩⟩
theorem rows_app {n m k : Nat} {A B : List (List Nat)} (hA : RowsIn n m A) (hB : ∀ l ∈ B, RowIn n l) (hk : m + B.length ≤ k) : RowsIn n k (A ++ B) := by
  refine ⟨setsOk_iff.mpr fun l hl => ?_, by rw [List.length_append]; have := hA.2; omega⟩
  rcases List.mem_append.mp hl with hl | hl
  · exact setsOk_iff.mp hA.1 l hl
  · exact hB l hl
theorem rows_mono {n m k : Nat} {A : List (List Nat)} (hA : RowsIn n m A) (h : m ≤ k) : RowsIn n k A := ⟨hA.1, Nat.le_trans hA.2 h⟩
section
variable {x : Xn} {Q : S → Prop} {n m : Nat} {A B : List (List Nat)}
theorem bent_r1 (hm : m ≤ 900) (hA : RowsIn n m A) (hB : RowsIn n m B) (q : ∀ A' B', RowsIn n (m + 10) A' → RowsIn n (m + 10) B' → Q (.dat (listsD A' B'))) (w : Nat) (R : List (List Nat)) (hR : RowsIn n (m + 10) R) (a5 a6 a7 a8 a9 a10 : Option S) :
    τ__law_bent_r1 x { nx := fun _ => Q (.dat .none), rt := Q } [some .tok, some (.dat (nI n)), some (.dat (listsD A B)), some (.dat (nI w)), some (.own (R.map tup)), a5, a6, a7, a8, a9, a10] := by
  have e := sl_eq
  unfold τ__law_bent_r1 listsD
  walk_at "dl"
  by_cases hw : (w : Int) = 0
  · rw [if_pos hw]
    rw [lists_at1]
    exact ⟨by omega, q R B hR (rows_mono hB (by omega))⟩
  · rw [if_neg hw]
    rw [lists_at0]
    exact ⟨by omega, q A R (rows_mono hA (by omega)) hR⟩
theorem bent_r2 (hm : m ≤ 900) (hA : RowsIn n m A) (hB : RowsIn n m B) (q : ∀ A' B', RowsIn n (m + 10) A' → RowsIn n (m + 10) B' → Q (.dat (listsD A' B'))) (w y : Nat) (R : List (List Nat)) (hR : RowsIn n (m + 9) R) (a5 a6 a8 a9 a10 : Option S) :
    τ__law_bent_r2 x { nx := fun _ => Q (.dat .none), rt := Q } [some .tok, some (.dat (nI n)), some (.dat (listsD A B)), some (.dat (nI w)), some (.own (R.map tup)), a5, a6, some (.dat (nI y)), a8, a9, a10] := by
  have e := sl_eq
  unfold τ__law_bent_r2
  walk_at "dl"
  have hl := hR.2
  by_cases hy : (y : Int) = 8
  · rw [if_pos hy]
    rw [List.length_map]
    refine ⟨by omega, by omega, ?_⟩
    have := bent_r1 (x := x) hm hA hB q w (R ++ [[]]) (rows_app hR (fun l hl => by rw [List.mem_singleton.mp hl]; exact ⟨.nil, fun x hx => by cases hx⟩) (Nat.le_refl _)) a5 a6 (some (.dat (nI y))) a8 a9 a10
    rw [List.map_append] at this
    exact this
  · rw [if_neg hy]
    exact bent_r1 hm hA hB q w R (rows_mono hR (by omega)) _ _ _ _ _ _
theorem bent_r8 (hm : m ≤ 900) (hA : RowsIn n m A) (hB : RowsIn n m B) (q : ∀ A' B', RowsIn n (m + 10) A' → RowsIn n (m + 10) B' → Q (.dat (listsD A' B'))) (w y : Nat) (R : List (List Nat)) (hR : RowsIn n (m + 9) R) (a5 a6 a8 a9 a10 : Option S) :
    τ__law_bent_r8 x { nx := fun _ => Q (.dat .none), rt := Q } [some .tok, some (.dat (nI n)), some (.dat (listsD A B)), some (.dat (nI w)), some (.own (R.map tup)), a5, a6, some (.dat (nI y)), a8, a9, a10] := by
  have e := sl_eq
  unfold τ__law_bent_r8
  walk_at "dl"
  by_cases hy : (y : Int) = 7
  · rw [if_pos hy]
    unfold listsD
    walk_at "dl"
    rw [lists_at1]
    dsimp only
    rw [lists_at0]
    exact ⟨by omega, q B A (rows_mono hB (by omega)) (rows_mono hA (by omega))⟩
  · rw [if_neg hy]
    exact bent_r2 hm hA hB q w y R hR _ _ _ _ _
end
section
variable {x : Xn} {M : DEnds} {n m : Nat} {L : D} {w y : Nat} {a5 : Option S} {sm one mo : List Nat}
/-- the environment in the middle of _law_bent -/
abbrev envB (n : Nat) (L : D) (w : Nat) (R : List (List Nat)) (a5 : Option S) (sm : List Nat) (y : Nat) (one : List Nat) (mo : List Nat) (a10 : Option S) : DEnv :=
  [some .tok, some (.dat (nI n)), some (.dat L), some (.dat (nI w)), some (.own (R.map tup)), a5, some (.dat (tup sm)), some (.dat (nI y)), some (.dat (tup one)), some (.own (mo.map nI)), a10]
def EndB (M : DEnds) (n : Nat) (L : D) (w : Nat) (a5 : Option S) (sm : List Nat) (y : Nat) (one mo : List Nat) (k : Nat) : Prop := ∀ R a10, RowsIn n k R → M.nx (envB n L w R a5 sm y one mo a10)
theorem rows_one {n k : Nat} {A : List (List Nat)} {l : List Nat} (hA : RowsIn n k A) (hl : RowIn n l) : RowsIn n (k + 1) (A ++ [l]) := rows_app hA (fun r hr => by rw [List.mem_singleton.mp hr]; exact hl) (Nat.le_refl _)
theorem bent_r3 (hm : m ≤ 900) (E : EndB M n L w a5 sm y one mo (m + 9)) (ho : RowIn n one) (hs : RowIn n sm) (R : List (List Nat)) (hR : RowsIn n (m + 6) R) (a10 : Option S) : τ__law_bent_r3 x M (envB n L w R a5 sm y one mo a10) := by
  have e := sl_eq
  have hl := hR.2
  unfold τ__law_bent_r3 envB
  walk_at "dl"
  by_cases hy : (y : Int) = 6
  · rw [if_pos hy]
    rw [List.length_map]
    have h2 : RowsIn n (m + 8) (R ++ [one, sm]) := rows_app hR (fun l hl => by
      rcases List.mem_cons.mp hl with rfl | hl
      · exact ho
      · rw [List.mem_singleton.mp hl]; exact hs) (Nat.le_refl _)
    refine ⟨by omega, by omega, _, (R ++ [one, sm]).map tup, ?_, rfl, .inl (by rw [List.map_append]; rfl), fun es hes => ?_⟩
    · rw [List.length_map]
      have := h2.2
      omega
    · obtain ⟨R', rfl, hp⟩ := perm_tup hes
      walk_at "dl"
      exact E R' a10 ⟨setsOk_iff.mpr fun l hl => setsOk_iff.mp h2.1 l (hp.mem_iff.mp hl), by rw [hp.length_eq]; have := h2.2; omega⟩
  · rw [if_neg hy]
    exact E R a10 (rows_mono hR (by omega))
theorem bent_r4 (hm : m ≤ 900) (E : EndB M n L w a5 sm y one mo (m + 9)) (ho : RowIn n one) (hs : RowIn n sm) (R : List (List Nat)) (hR : RowsIn n (m + 5) R) (a10 : Option S) : τ__law_bent_r4 x M (envB n L w R a5 sm y one mo a10) := by
  have e := sl_eq
  have hl := hR.2
  unfold τ__law_bent_r4 envB
  walk_at "dl"
  by_cases hy : (y : Int) = 5
  · rw [if_pos hy]
    unfold tup
    walk_at "dl"
    obtain ⟨k, hk⟩ := cut_to (one.map nI) (some (-1))
    rw [hk, ← List.map_take]
    rw [List.length_map]
    refine ⟨by omega, by omega, ?_⟩
    have h2 : RowsIn n (m + 6) ([one.take k] ++ R) := ⟨setsOk_iff.mpr fun l hl => by
      rcases List.mem_append.mp hl with hl | hl
      · rw [List.mem_singleton.mp hl]; exact ⟨ho.1.take, fun z hz => ho.2 z (List.mem_of_mem_take hz)⟩
      · exact setsOk_iff.mp hR.1 l hl, by rw [List.length_append, List.length_singleton]; omega⟩
    exact bent_r3 hm E ho hs _ h2 a10
  · rw [if_neg hy]
    exact bent_r3 hm E ho hs R (rows_mono hR (by omega)) a10
theorem bent_r5 (hm : m ≤ 900) (E : EndB M n L w a5 sm y one mo (m + 9)) (ho : RowIn n one) (hs : RowIn n sm) (R : List (List Nat)) (hR : RowsIn n (m + 3) R) (a10 : Option S) : τ__law_bent_r5 x M (envB n L w R a5 sm y one mo a10) := by
  have e := sl_eq
  have hl := hR.2
  unfold τ__law_bent_r5 envB
  walk_at "dl"
  by_cases hy : (y : Int) = 4
  · rw [if_pos hy]
    rw [List.length_map]
    have h2 : RowsIn n (m + 5) (R ++ [one, one]) := rows_app hR (fun l hl => by
      rcases List.mem_cons.mp hl with rfl | hl
      · exact ho
      · rw [List.mem_singleton.mp hl]; exact ho) (Nat.le_refl _)
    refine ⟨by omega, by omega, ?_⟩
    have := bent_r4 (x := x) hm E ho hs _ h2 a10
    unfold envB at this
    rw [List.map_append] at this
    exact this
  · rw [if_neg hy]
    exact bent_r4 hm E ho hs R (rows_mono hR (by omega)) a10
theorem bent_r6 (hm : m ≤ 900) (hn : n ≤ 7) (E : EndB M n L w a5 sm y one mo (m + 9)) (ho : RowIn n one) (hs : RowIn n sm) (hmo : mo = (List.range n).filter fun k => !decide (k ∈ one)) (R : List (List Nat)) (hR : RowsIn n (m + 2) R) (a10 : Option S) : τ__law_bent_r6 x M (envB n L w R a5 sm y one mo a10) := by
  have e := sl_eq
  have hl := hR.2
  unfold τ__law_bent_r6 envB
  walk_at "dl"
  by_cases hy : (y : Int) = 3
  · rw [if_pos hy]
    unfold tup
    walk_at "dl"
    obtain ⟨k, hk⟩ := cut_to (mo.map nI) (some 1)
    rw [hk, ← List.map_take]
    have hol : one.length ≤ n := up_len ho.1 ho.2
    have hml : (mo.take k).length ≤ 7 := by
      have h1 := List.length_take_le k mo
      have h2 := List.length_take_le' k mo
      have h3 : mo.length ≤ n := by rw [hmo]; exact Nat.le_trans (List.length_filter_le _ _) (by rw [List.length_range]; exact Nat.le_refl _)
      omega
    have hnd : (one ++ mo.take k).Nodup := by
      refine List.nodup_append.mpr ⟨up_nodup ho.1, (List.take_sublist k mo).nodup ?_, fun a ha b hb hab => ?_⟩
      · rw [hmo]; exact (up_nodup List.pairwise_lt_range).filter _
      · subst hab
        have := List.mem_of_mem_take hb
        rw [hmo, List.mem_filter] at this
        simp [ha] at this
    have hlt : ∀ z ∈ one ++ mo.take k, z < n := fun z hz => by
      rcases List.mem_append.mp hz with hz | hz
      · exact ho.2 z hz
      · have := List.mem_of_mem_take hz
        rw [hmo, List.mem_filter] at this
        exact List.mem_range.mp this.1
    rw [List.length_map, List.length_map]
    refine ⟨by omega, bSorted_nIT (l := one ++ mo.take k) (by rw [List.map_append]; rfl) ?_⟩
    walk_at "dl"
    rw [List.length_map]
    refine ⟨by omega, ?_⟩
    have h2 : RowsIn n (m + 3) (R ++ [sortN (one ++ mo.take k)]) := rows_one hR ⟨sortN_up hnd, fun z hz => hlt z ((sortN_perm _).mem_iff.mp hz)⟩
    have := bent_r5 (x := x) hm E ho hs _ h2 a10
    unfold envB at this
    rw [List.map_append] at this
    exact this
  · rw [if_neg hy]
    exact bent_r5 hm E ho hs R (rows_mono hR (by omega)) a10
theorem bent_r7 (hm : m ≤ 900) (hn : n ≤ 7) (E : EndB M n L w a5 sm y one mo (m + 9)) (ho : RowIn n one) (hs : RowIn n sm) (hmo : mo = (List.range n).filter fun k => !decide (k ∈ one)) (R : List (List Nat)) (hR : RowsIn n (m + 1) R) (a10 : Option S) : τ__law_bent_r7 x M (envB n L w R a5 sm y one mo a10) := by
  have e := sl_eq
  have hl := hR.2
  unfold τ__law_bent_r7 envB
  walk_at "dl"
  by_cases hy : (y : Int) = 2
  · rw [if_pos hy]
    unfold tup
    walk_at "dl"
    rw [show (1 : Int) = ((1 : Nat) : Int) from rfl, cut_drop, ← List.map_drop]
    rw [List.length_map]
    refine ⟨by omega, ?_⟩
    have h2 : RowsIn n (m + 2) (R ++ [one.drop 1]) := rows_one hR ⟨ho.1.drop, fun z hz => ho.2 z (List.mem_of_mem_drop hz)⟩
    have := bent_r6 (x := x) hm hn E ho hs hmo _ h2 a10
    unfold envB at this
    rw [List.map_append] at this
    exact this
  · rw [if_neg hy]
    exact bent_r6 hm hn E ho hs hmo R (rows_mono hR (by omega)) a10
end
theorem draw_max {L : List D} {Q : S → Prop} (h2 : L.length ≤ 1000) (h : ∀ r, (r < L.length ∨ L.length = 0) → Q (.dat (nI r))) : sp__law_draw [.tok, .dat (.int (if (L.length : Int) > 1 then (L.length : Int) else 1))] x0 Q := by
  by_cases h1 : (L.length : Int) > 1
  · rw [if_pos h1]
    exact ⟨L.length, by omega, rfl, fun r hr => h r (.inl hr)⟩
  · rw [if_neg h1]
    exact ⟨1, by decide, rfl, fun r hr => h r (by omega)⟩
theorem sem__law_bent (ss : List S) (x : Xn) (Q : S → Prop) (h : sp__law_bent ss x Q) : τ__law_bent x { nx := fun _ => Q (.dat .none), rt := Q } (DL.envOf ss 11) := by
  obtain ⟨n, m, A, B, ⟨hn, hm, hA, hB⟩, rfl, q⟩ := h
  have e := sl_eq
  unfold τ__law_bent
  walk_at "dl"
  refine ⟨2, by decide, rfl, fun w hw => ?_⟩
  walk_at "dl"
  have hrow : ∃ R, RowsIn n m R ∧ ∀ {X : Prop} (f : D → Prop), f (.tuple (R.map tup)) → (match atI [PyData.tuple (A.map tup), PyData.tuple (B.map tup)] (w : Int) with | some d => f d | none => False) := by
    match w, hw with
    | 0, _ => exact ⟨A, hA, fun f h => h⟩
    | 1, _ => exact ⟨B, hB, fun f h => h⟩
  obtain ⟨R, hR, at_⟩ := hrow
  unfold listsD
  walk_at "dl"
  refine at_ (X := True) _ ?_
  walk_at "dl"
  refine draw_max (by rw [List.length_map]; have := hR.2; omega) fun at' hat => ?_
  rw [List.length_map] at hat
  walk_at "dl"
  refine ⟨rg_ok (by omega), ?_⟩
  refine ⟨_, (List.range n).map nI, by rw [List.length_map, List.length_range]; omega, rfl, .inl (by rw [Int.sub_zero, Int.toNat_natCast, rg_nI]), fun es hes => ?_⟩
  obtain ⟨pm, rfl, hp⟩ := perm_nI hes
  walk_at "dl"
  refine ⟨n + 1, by omega, rfl, fun k hk => ?_⟩
  walk_at "dl"
  rw [cut_take, ← List.map_take]
  refine bSorted_nI (l := pm.take k) rfl ?_
  walk_at "dl"
  have hs : RowIn n (sortN (pm.take k)) := ⟨sortN_up ((hp.nodup_iff.mpr (up_nodup List.pairwise_lt_range)).sublist (List.take_sublist _ _)), fun z hz => List.mem_range.mp (hp.mem_iff.mp (List.mem_of_mem_take ((sortN_perm _).mem_iff.mp hz)))⟩
  generalize sortN (pm.take k) = sm at hs
  refine ⟨9, by decide, rfl, fun y hy => ?_⟩
  walk_at "dl"
  refine ⟨sh_tups _, ?_⟩
  have fin8 : ∀ (R' : List (List Nat)) a8 a9 a10, RowsIn n (m + 9) R' → τ__law_bent_r8 x { nx := fun _ => Q (.dat .none), rt := Q } [some .tok, some (.dat (nI n)), some (.dat (listsD A B)), some (.dat (nI w)), some (.own (R'.map tup)), some (.dat (nI at')), some (.dat (tup sm)), some (.dat (nI y)), a8, a9, a10] := fun R' a8 a9 a10 h => bent_r8 hm hA hB q w y R' h _ _ _ _ _
  rw [List.isEmpty_map]
  cases he : R.isEmpty with
  | true =>
    rw [if_neg (by decide)]
    exact fin8 R _ _ _ (rows_mono hR (by omega))
  | false =>
    rw [if_pos (by decide)]
    have hat' : at' < R.length := by
      rcases hat with h | h
      · exact h
      · rw [List.length_eq_zero_iff.mp h] at he; cases he
    by_cases hy7 : (y : Int) < 7
    · rw [if_pos hy7, rows_at' hat']
      have hone : RowIn n (R.getD at' []) := by
        rw [getD_mem hat']
        exact setsOk_iff.mp hR.1 _ (List.getElem_mem hat')
      generalize R.getD at' [] = one at hone
      dsimp only
      refine ⟨by omega, ?_⟩
      rw [Int.toNat_natCast, rg_nI]
      refine lc_notin (i := 10) (j := 8) (List.range n) one rfl rfl rfl (by rw [List.length_range]; omega) (fun _ => rfl) (fun _ => rfl) ?_
      rw [show (at' : Int) + 1 = ((at' + 1 : Nat) : Int) by omega, cut_take, cut_drop, ← List.map_take, ← List.map_drop, ← List.map_append]
      have hR1 : RowsIn n m (R.take at' ++ R.drop (at' + 1)) := by
        refine ⟨setsOk_iff.mpr fun l hl => ?_, ?_⟩
        · rcases List.mem_append.mp hl with hl | hl
          · exact setsOk_iff.mp hR.1 l (List.mem_of_mem_take hl)
          · exact setsOk_iff.mp hR.1 l (List.mem_of_mem_drop hl)
        · rw [List.length_append, List.length_take, List.length_drop]
          have := hR.2
          omega
      have hR1l := hR1.2
      rw [List.length_append] at hR1l
      have E : EndB { nx := τ__law_bent_r8 x { nx := fun _ => Q (.dat .none), rt := Q }, rt := Q } n (listsD A B) w (some (.dat (nI at'))) sm y one ((List.range n).filter fun k => !decide (k ∈ one)) (m + 9) := fun R' a10 h => fin8 R' _ _ _ h
      refine ⟨by rw [List.length_map, List.length_map]; omega, ?_⟩
      by_cases hy1 : (y : Int) = 1
      · rw [if_pos hy1]
        refine ⟨by rw [List.length_map, List.length_append]; omega, ?_⟩
        have := bent_r7 (x := x) hm hn E hone hs rfl _ (rows_one hR1 hs) none
        unfold envB at this
        rw [List.map_append] at this
        exact this
      · rw [if_neg hy1]
        exact bent_r7 hm hn E hone hs rfl _ (rows_mono hR1 (by omega)) none
    · rw [if_neg hy7]
      exact fin8 R _ _ _ (rows_mono hR (by omega))
end Law

set_option Elab.async false
set_option linter.all false
set_option maxRecDepth 100000
set_option maxHeartbeats 4000000
namespace Law
open PySem PySem.Spec PyProof.Rows L2 DL Mb
/-- plain data: ints, truth values, texts, tuples of these -/
def PlainA (d : D) : Prop := (∃ i, d = .int i) ∨ (∃ b, d = .bool b) ∨ ∃ z, d = .str z ∧ shp (.str z) = true ∧ PyData.eqv (.str z) (.str z) = true
def PlainB : Nat → D → Prop
  | 0 => PlainA
  | n + 1 => fun d => PlainA d ∨ ∃ ds, d = .tuple ds ∧ ds.length ≤ 2 ^ 20 ∧ ∀ e ∈ ds, PlainB n e
theorem plainB_A : ∀ {n : Nat} {d : D}, PlainA d → PlainB n d
  | 0, _, h => h
  | _ + 1, _, h => Or.inl h
theorem plainB_T {n : Nat} {ds : List D} (hl : ds.length ≤ 2 ^ 20) (h : ∀ e ∈ ds, PlainB n e) : PlainB (n + 1) (.tuple ds) := Or.inr ⟨ds, rfl, hl, h⟩
theorem plainB_inv {n : Nat} {d : D} (h : PlainB (n + 1) d) : PlainA d ∨ ∃ ds, d = .tuple ds ∧ ds.length ≤ 2 ^ 20 ∧ ∀ e ∈ ds, PlainB n e := h
def sp_sameB (n : Nat) : DSp := fun ss _ Q => ∃ d, PlainB n d ∧ ss = [.dat d, .dat d] ∧ Q (.dat (.bool true))
theorem ty_tb (b : Bool) : isTy "tuple" (.bool b) = false := by simp [isTy, tyName]
theorem ty_bb (b : Bool) : isTy "bool" (.bool b) = true := by simp [isTy, tyName]
theorem ty_ts (z : Str) : isTy "tuple" (.str z) = false := by simp [isTy, tyName]
theorem ty_bs (z : Str) : isTy "bool" (.str z) = false := by simp [isTy, tyName]
theorem ty_ss (z : Str) : isTy "str" (.str z) = true := by simp [isTy, tyName]
theorem sem_same_bool (sp : DSp) (b : Bool) (x : Xn) (Q : S → Prop) (q : Q (.dat (.bool true))) : τ__law_same sp x { nx := fun _ => Q (.dat .none), rt := Q } (DL.envOf [.dat (.bool b), .dat (.bool b)] 3) := by
  unfold τ__law_same τ__law_same_r5 τ__law_same_r3
  have e : PyData.eqv (.bool b) (.bool b) = true := by rw [PyData.eqv]; simp
  simp only [τSeq, τIfS, τTru, τIsi, dctB, τVar, lk, DL.envOf, noneL, S.d, ty_tb, tru, ne_eq, reduceCtorEq, not_false_eq_true, true_and, Bool.false_eq_true, reduceIte, τOr, τTest, τOp, τC, bIsN, isNone, τNext, ty_bb, τRet, τAndV, bEq, sh_bool, and_self, e, noBor]
  exact q
theorem sem_same_str (sp : DSp) (z : Str) (hz : shp (.str z) = true) (e : PyData.eqv (.str z) (.str z) = true) (x : Xn) (Q : S → Prop) (q : Q (.dat (.bool true))) : τ__law_same sp x { nx := fun _ => Q (.dat .none), rt := Q } (DL.envOf [.dat (.str z), .dat (.str z)] 3) := by
  unfold τ__law_same τ__law_same_r5 τ__law_same_r3 τ__law_same_r2
  simp only [τSeq, τIfS, τTru, τIsi, dctB, τVar, lk, DL.envOf, noneL, S.d, ty_ts, tru, ne_eq, reduceCtorEq, not_false_eq_true, true_and, Bool.false_eq_true, reduceIte, τOr, τTest, τOp, τC, bIsN, isNone, τNext, ty_bs, ty_ss, τRet, τAndV, bEq, hz, and_self, e, noBor]
  exact q
theorem sem_sameB (n : Nat) (sp : DSp) (hsp : ∀ m, n = m + 1 → sp = sp_sameB m) (ss : List S) (x : Xn) (Q : S → Prop) (h : sp_sameB n ss x Q) : τ__law_same sp x { nx := fun _ => Q (.dat .none), rt := Q } (DL.envOf ss 3) := by
  obtain ⟨d, hd, rfl, q⟩ := h
  have base : ∀ d, PlainA d → τ__law_same sp x { nx := fun _ => Q (.dat .none), rt := Q } (DL.envOf [.dat d, .dat d] 3) := by
    rintro d (⟨i, rfl⟩ | ⟨b, rfl⟩ | ⟨z, rfl, h1, h2⟩)
    · exact sem_same_int sp i x Q q
    · exact sem_same_bool sp b x Q q
    · exact sem_same_str sp z h1 h2 x Q q
  cases n with
  | zero => exact base d hd
  | succ n =>
    rcases plainB_inv hd with hd | ⟨ds, rfl, hl, hds⟩
    · exact base d hd
    · refine sem_same_tup sp ds hl (fun d hd Q q => ?_) x Q q
      rw [hsp n rfl]
      exact ⟨d, hds d hd, rfl, q⟩
theorem plainB_tups {L : List (List Nat)} (h : L.length ≤ 2000) (hl : ∀ l ∈ L, l.length ≤ 2 ^ 20) : PlainB 2 (.tuple (sortD (L.map tup))) := plainB_T (by
    rw [show (sortD (L.map tup)).length = (L.map tup).length from List.length_mergeSort _, List.length_map]; omega) (fun e he => by
  obtain ⟨l, hl', rfl⟩ := List.mem_map.mp ((List.mergeSort_perm _ _).mem_iff.mp he)
  exact plainB_T (by rw [List.length_map]; exact hl l hl') (fun e he => by
    obtain ⟨n, _, rfl⟩ := List.mem_map.mp he
    exact plainB_A (Or.inl ⟨n, rfl⟩)))
theorem plainB_bool (b : Bool) : PlainB 2 (.bool b) := plainB_A (Or.inr (Or.inl ⟨b, rfl⟩))
theorem sameB_use {d : D} (h : PlainB 2 d) {Q : S → Prop} (q : Q (.dat (.bool true))) : sp_sameB 2 [.dat d, .dat d] x0 Q := ⟨d, h, rfl, q⟩
/-! what the two lists are -/
theorem mem_maxL {n : Nat} {A : List (List Nat)} (ok : SetsOk n A) {l : List Nat} : l ∈ maxL n A ↔ RowIn n l ∧ MinHit A (compl n l) := by
  have hits : ∀ l, goodB A l = true ↔ Hits A (compl n l) := fun l => by
    rw [goodB_iff]
    constructor
    · intro h one ho
      obtain ⟨x, h1, h2⟩ := h one ho
      exact ⟨x, h1, mem_compl.mpr ⟨ok.lt one ho x h1, h2⟩⟩
    · intro h one ho
      obtain ⟨x, h1, h2⟩ := h one ho
      exact ⟨x, h1, (mem_compl.mp h2).2⟩
  have more : ∀ l m, RowIn n l → m < n → m ∉ l → (sortN (l ++ [m]) ∈ goodL n A ↔ Hits A ((compl n l).filter fun k => decide (k ≠ m))) := fun l m hl hm hml => by
    have hnd : (l ++ [m]).Nodup := List.nodup_append.mpr ⟨up_nodup hl.1, by simp, fun a ha b hb e => hml (by rw [List.mem_singleton.mp hb] at e; exact e ▸ ha)⟩
    have hmem : ∀ x, x ∈ sortN (l ++ [m]) ↔ x ∈ l ∨ x = m := fun x => by rw [(sortN_perm _).mem_iff]; simp
    have hr : RowIn n (sortN (l ++ [m])) := ⟨sortN_up hnd, fun x hx => by
      rcases (hmem x).mp hx with hx | rfl
      · exact hl.2 x hx
      · exact hm⟩
    rw [mem_goodL, hits]
    have hh : Hits A (compl n (sortN (l ++ [m]))) ↔ Hits A ((compl n l).filter fun k => decide (k ≠ m)) := by
      refine forall_congr' fun s => forall_congr' fun _ => exists_congr fun x => and_congr_right fun _ => ?_
      rw [mem_compl, List.mem_filter, mem_compl, hmem, decide_eq_true_eq]
      constructor
      · exact fun ⟨h1, h2⟩ => ⟨⟨h1, fun z => h2 (.inl z)⟩, fun z => h2 (.inr z)⟩
      · exact fun ⟨⟨h1, h2⟩, h3⟩ => ⟨h1, fun z => z.elim h2 h3⟩
    rw [hh]
    exact ⟨fun h => h.2, fun h => ⟨hr, h⟩⟩
  unfold maxL
  rw [List.mem_filter, mem_goodL, hits, maxB_iff]
  constructor
  · rintro ⟨⟨hr, hh⟩, hm⟩
    refine ⟨hr, compl_up n l, hh, fun m hml => ?_⟩
    obtain ⟨h1, h2⟩ := mem_compl.mp hml
    exact fun z => hm m h1 h2 ((more l m hr h1 h2).mpr z)
  · rintro ⟨hr, _, hh, hm⟩
    exact ⟨⟨hr, hh⟩, fun m h1 h2 z => hm m (mem_compl.mpr ⟨h1, h2⟩) ((more l m hr h1 h2).mp z)⟩
theorem maxL_row {n : Nat} {A : List (List Nat)} (ok : SetsOk n A) : ∀ l ∈ maxL n A, RowIn n l := fun l hl => ((mem_maxL ok).mp hl).1
theorem maxL_ok {n : Nat} {A : List (List Nat)} (ok : SetsOk n A) : SetsOk n (maxL n A) := setsOk_iff.mpr (maxL_row ok)
theorem maxL_apart {n : Nat} {A : List (List Nat)} (ok : SetsOk n A) : ApartRows (maxL n A) := by
  refine ⟨maxL_nodup n A, fun a ha b hb hab => ?_⟩
  obtain ⟨ra, ma⟩ := (mem_maxL ok).mp ha
  obtain ⟨rb, mb⟩ := (mem_maxL ok).mp hb
  have e := minHit_anti mb ma fun x hx => by
    obtain ⟨h1, h2⟩ := mem_compl.mp hx
    exact mem_compl.mpr ⟨h1, fun z => h2 (hab x z)⟩
  exact compl_inj ra.1 rb.1 ra.2 rb.2 e.symm
theorem maxL_compl {n : Nat} {A : List (List Nat)} (ok : SetsOk n A) (l : List Nat) : l ∈ (maxL n A).map (compl n) ↔ MinHit A l := by
  rw [List.mem_map]
  constructor
  · rintro ⟨a, ha, rfl⟩
    exact ((mem_maxL ok).mp ha).2
  · intro h
    have hl := minHit_lt ok h
    refine ⟨compl n l, (mem_maxL ok).mpr ⟨⟨compl_up n l, fun x hx => (mem_compl.mp hx).1⟩, ?_⟩, compl_compl h.1 hl⟩
    rw [compl_compl h.1 hl]
    exact h
theorem map_compl_iff {n : Nat} {A B : List (List Nat)} (hA : ∀ l ∈ A, RowIn n l) (hB : ∀ l ∈ B, RowIn n l) : (∀ l, l ∈ A.map (compl n) ↔ l ∈ B.map (compl n)) ↔ ∀ l, l ∈ A ↔ l ∈ B := by
  have key : ∀ {A B : List (List Nat)}, (∀ l ∈ A, RowIn n l) → (∀ l ∈ B, RowIn n l) → (∀ l, l ∈ A.map (compl n) → l ∈ B.map (compl n)) → ∀ l, l ∈ A → l ∈ B := fun {A B} hA hB h l hl => by
    obtain ⟨m, h1, h2⟩ := List.mem_map.mp (h _ (List.mem_map.mpr ⟨l, hl, rfl⟩))
    rw [← compl_inj (hB m h1).1 (hA l hl).1 (hB m h1).2 (hA l hl).2 h2]
    exact h1
  constructor
  · exact fun h l => ⟨key hA hB (fun l => (h l).mp) l, key hB hA (fun l => (h l).mpr) l⟩
  · intro h l
    rw [List.mem_map, List.mem_map]
    exact ⟨fun ⟨a, h1, h2⟩ => ⟨a, (h a).mp h1, h2⟩, fun ⟨a, h1, h2⟩ => ⟨a, (h a).mpr h1, h2⟩⟩
theorem dueB_iff {n : Nat} {A B : List (List Nat)} : dueB n A B = true ↔ (ApartRows A ∧ ApartRows B) ∧ sortT (maxL n A) = sortT B := by
  unfold dueB
  rw [Bool.and_eq_true, Bool.and_eq_true, apartB_iff, apartB_iff, decide_eq_true_eq]
/-- are_lists answers as the law's own reckoning -/
theorem lists_use {n : Nat} {s t : S} {A B : List (List Nat)} {Q : S → Prop} (hn : n ≤ 8) (hA : RowsIn n 1000 A) (hB : RowsIn n 1000 B) (hs : isSeq s (A.map tup)) (ht : isSeq t (B.map tup)) (q : Q (.dat (.bool (dueB n A B)))) : spX_are_lists [.dat (nI n), s, t] x0 Q := by
  refine ⟨n, s, t, A, B, ⟨by omega, hA.1, by have := hA.2; omega, hB.1, by have := hB.2; omega⟩, rfl, hs, ht, fun hno => ?_, fun aA aB L hL hm => ?_⟩
  · have : dueB n A B = false := by
      cases r : dueB n A B with
      | false => rfl
      | true => exact absurd (dueB_iff.mp r).1 hno
    rw [this] at q
    exact q
  · have hLm : ∀ l, l ∈ L ↔ l ∈ (maxL n A).map (compl n) := fun l => by rw [hm, maxL_compl hA.1]
    have hlen : L.length ≤ 256 := by
      have h1 := nodup_le hL fun l hl => (hLm l).mp hl
      rw [List.length_map] at h1
      exact Nat.le_trans h1 (maxL_small hn A)
    refine ⟨fun h => by omega, fun _ b hb => ?_⟩
    have e : b = dueB n A B := by
      rw [Bool.eq_iff_iff, hb, dueB_iff]
      have h2 : (∀ l, l ∈ B.map (compl n) ↔ l ∈ L) ↔ ∀ l, l ∈ B ↔ l ∈ maxL n A := by
        rw [← map_compl_iff (setsOk_iff.mp hB.1) (maxL_row hA.1)]
        exact forall_congr' fun l => by rw [hLm]
      rw [h2, sortT_eq (maxL_nodup n A) aB.1]
      exact ⟨fun h => ⟨⟨aA, aB⟩, fun l => (h l).symm⟩, fun h l => (h.2 l).symm⟩
    rw [e]
    exact q
/-! the least rows -/
theorem leastFold {sets : List (List Nat)} : ∀ (l F : List (List Nat)), F.Nodup → (l.foldl (leastStep sets) F).Nodup ∧ ∀ r, r ∈ l.foldl (leastStep sets) F ↔ r ∈ F ∨ r ∈ l ∧ minOf sets r = true
  | [], F, h => ⟨h, fun r => by simp⟩
  | a :: l, F, h => by
    rw [List.foldl_cons]
    have hF : (leastStep sets F a).Nodup := by
      unfold leastStep
      split
      · rename_i h2
        rw [Bool.and_eq_true] at h2
        have h3 : a ∉ F := by simpa using h2.2
        exact List.nodup_append.mpr ⟨h, by simp, fun x hx y hy e => h3 (by rw [List.mem_singleton.mp hy] at e; exact e ▸ hx)⟩
      · exact h
    obtain ⟨h1, h2⟩ := leastFold l _ hF
    refine ⟨h1, fun r => ?_⟩
    rw [h2]
    have h3 : r ∈ leastStep sets F a ↔ r ∈ F ∨ r = a ∧ minOf sets a = true := by
      unfold leastStep
      split
      · rename_i h2
        rw [Bool.and_eq_true] at h2
        rw [List.mem_append, List.mem_singleton]
        exact ⟨fun z => z.elim .inl fun z => .inr ⟨z, h2.1⟩, fun z => z.elim .inl fun z => .inr z.1⟩
      · rename_i h2
        refine ⟨.inl, fun z => z.elim id fun ⟨z1, z2⟩ => ?_⟩
        rw [z2, Bool.true_and] at h2
        rw [z1]
        simpa using h2
    rw [h3, List.mem_cons]
    constructor
    · rintro ((h | ⟨rfl, h⟩) | ⟨h4, h5⟩)
      · exact .inl h
      · exact .inr ⟨.inl rfl, h⟩
      · exact .inr ⟨.inr h4, h5⟩
    · rintro (h | ⟨rfl | h4, h5⟩)
      · exact .inl (.inl h)
      · exact .inl (.inr ⟨rfl, h5⟩)
      · exact .inr ⟨h4, h5⟩
theorem mem_leastOf {sets : List (List Nat)} {r : List Nat} : r ∈ leastOf sets ↔ r ∈ sets ∧ minOf sets r = true := by
  unfold leastOf
  rw [(leastFold (sortT sets) [] List.nodup_nil).2 r, (sortT_perm sets).mem_iff]
  simp
theorem leastOf_len (sets : List (List Nat)) : (leastOf sets).length ≤ sets.length := by
  have h := leastFold_len sets (sortT sets) []
  rw [sortT_len, List.length_nil] at h
  unfold leastOf
  omega
theorem leastOf_apart (sets : List (List Nat)) : ApartRows (leastOf sets) := by
  refine ⟨(leastFold (sortT sets) [] List.nodup_nil).1, fun a ha b hb hab => ?_⟩
  obtain ⟨a1, a2⟩ := mem_leastOf.mp ha
  obtain ⟨b1, b2⟩ := mem_leastOf.mp hb
  unfold minOf at b2
  rw [flt_nil, List.all_eq_true] at b2
  have := b2 a a1
  by_cases e : a = b
  · exact e
  · rw [decide_eq_true e, Bool.true_and, isW_iff.mpr hab] at this
    cases this
theorem apart_perm {A B : List (List Nat)} (h : A.Perm B) (a : ApartRows B) : ApartRows A := ⟨h.nodup_iff.mpr a.1, fun s hs t ht => a.2 s (h.mem_iff.mp hs) t (h.mem_iff.mp ht)⟩
theorem sets_perm {n : Nat} {A B : List (List Nat)} (h : A.Perm B) (a : SetsOk n B) : SetsOk n A := setsOk_iff.mpr fun l hl => setsOk_iff.mp a l (h.mem_iff.mp hl)
/-- the two lists of the law -/
theorem due_first {n : Nat} {sets A B : List (List Nat)} (ok : SetsOk n sets) (hA : A.Perm (leastOf sets)) (hB : B.Perm (sortT (maxL n (leastOf sets)))) : dueB n A B = true := by
  have okL : SetsOk n (leastOf sets) := setsOk_iff.mpr fun l hl => setsOk_iff.mp ok l (mem_leastOf.mp hl).1
  have okA : SetsOk n A := sets_perm hA okL
  have hB' := hB.trans (sortT_perm _)
  have aB := apart_perm hB' (maxL_apart okL)
  refine dueB_iff.mpr ⟨⟨apart_perm hA (leastOf_apart sets), aB⟩, (sortT_eq (maxL_nodup n A) aB.1).mpr fun l => ?_⟩
  rw [hB'.mem_iff, mem_maxL okA, mem_maxL okL, minHit_congr (fun x => hA.mem_iff)]
end Law

set_option Elab.async false
set_option linter.all false
set_option maxRecDepth 100000
set_option maxHeartbeats 4000000
/-! DL14: sorted(t), t a tuple of rows; >= of rows; max of a list; int of an int; three stores at once; d[k]. -/
namespace DL
open PySem PySem.Spec PySem.W PySem.Calls PyProof.Rows SrtO
section
variable {prog : Program} {w : World} {A : Around} {E : Value → Shared → Prop} {s : Shared}
theorem sortedT_ord {tp : Addr} {us : List Value} {lv : Value → Value → Bool} {Q : Value → Shared → Prop} (O : Swo lv) (ht : s.heap.IsTuple tp us.toArray) (hlen : us.length ≤ sizeLine)
    (hS : 2 ≤ us.length → ∀ (g : Heap) (l : Addr), g.get? l = some (seqObj "list" us.toArray 0) → (∀ b o, s.heap.get? b = some o → b ≠ l ∧ g.get? b = some o) → SortableO prog w A.in1.in1 { s with heap := g } l us lv)
    (fin : ∀ res : List Value, Srtd lv res → Stb lv res us → Q (.ref (s.heap.objs.size + 1)) { s with heap := sortedAll s.heap us res.toArray }) :
    wpAny (model prog w) A (call (.builtin "sorted") [.ref tp]) Q E s := by
  refine call_function_entry_kw kind_sorted plain_sorted entry_sorted (args_sorted1 _) ?_
  unfold Builtin.«sorted»
  refine wpAny_bind (m := checkCount "sorted" 1 1 _) (wpAny_pure ?_)
  refine wpAny_bind (collectT ht hlen ?_)
  refine wpAny_bind (wpAny_newList ?_ hlen)
  have e2 : ((s.heap.push (seqObj "list" #[] 0)).update s.heap.objs.size (Obj.mapSeq (· ++ us.toArray))).objs.size = s.heap.objs.size + 1 := by
    rw [Heap.size_update, size_push']
  change wpAny _ _ _ _ _ { s with heap := PySem.W.copyHeap s.heap us }
  rw [e2]
  have old : ∀ b o, s.heap.get? b = some o → b ≠ s.heap.objs.size + 1 ∧ (PySem.W.copyHeap s.heap us).get? b = some o := fun b o h => by
    have lt := Heap.lt_size h
    refine ⟨Nat.ne_of_lt (Nat.lt_succ_of_lt lt), Heap.get?_push_of_some _ ?_⟩
    rw [Heap.get?_update_ne _ _ _ _ (show b ≠ s.heap.objs.size from Nat.ne_of_lt lt)]
    exact Heap.get?_push_of_some _ h
  refine wpAny_bind (wpAny_holding (wpAny_call_entry_kw slot_list_sort ⟨_, PySem.W.copyHeap_at s.heap us, rfl⟩ entry_list_sort ?bd (args_list_sort _)))
  case bd =>
    refine wpAny_mono (list_sort_ord (s := { s with heap := PySem.W.copyHeap s.heap us }) (R := fun f s' => f = .done (.ret .none) ∧ Q (.ref (s.heap.objs.size + 1)) s') O (PySem.W.copyHeap_at s.heap us) hlen (fun h2 => hS h2 _ _ (PySem.W.copyHeap_at s.heap us) old) fun res h1 h2 => ⟨rfl, fin res h1 h2⟩) (fun f s' hf => ?_) fun _ _ e => e
    obtain ⟨rfl, hq⟩ := hf
    exact ⟨_, rfl, wpAny_pure ⟨_, rfl, hq⟩⟩
end
end DL
namespace DL
open PySem PySem.Spec PyProof.Rows L2
def rSortRT (K : PySem.W.Frag) : List V → Hp → VK → Prop := fun vs H Q => ∃ (a : Addr) (ts : List Addr) (k : Addr → List Int), vs = [.ref a] ∧ SqT K H a (ts.map V.ref) ∧ (∀ t ∈ ts, H t = some (.tup ((k t).map V.int))) ∧ (2 ≤ ts.length → ∃ t ∈ ts, k t = []) ∧
  ∀ ts' : List Addr, ts'.Perm ts → ts'.Pairwise (fun p q => HT.lexLt (k q) (k p) = false) → ∀ p, H p = none → Q (.ref p) (upd H p (.lst (ts'.map V.ref)))
theorem cr_sortRT {X : Cx} (hu : X.A.units + 65 < cLine) : CallR X (.builtin "sorted") (rSortRT X.K) := by
  intro pins s σ H vs us Q I r h
  obtain ⟨a, ts, k, rfl, hs, hN, hem, q⟩ := h
  obtain ⟨its, rv, hl, hz⟩ := I.tuple hs
  rw [Vals.ref1 r]
  have ei := nts_of rv
  have hrow : ∀ t ∈ ts, IsRow s.heap (.ref t) (k t) := fun t ht => by
    obtain ⟨its2, r1, p1, _⟩ := I.tuple (SqT.of (hN t ht))
    exact ⟨t, its2.toArray, rfl, p1, Vals.ints r1⟩
  rw [List.length_map] at hz
  have hzi : its.length ≤ sizeLine := by rw [ei, List.length_map]; exact hz
  refine sortedT_ord (NtL.swo_lexL fun u => k (adO u)) hl hzi (fun hl2 h₁ a' ha' kk => ?_) fun out h1 h2 => ?_
  · intro h' keep
    have hlen2 : 2 ≤ ts.length := by rw [ei, List.length_map] at hl2; exact hl2
    obtain ⟨te, hte, hke⟩ := hem hlen2
    have hrow' : ∀ t ∈ ts, IsRow h' (.ref t) (k t) := fun t ht => (hrow t ht).keeps fun b o e g => keep b o (kk b o g).1 (kk b o g).2
    have hp : Paired (fun v ns => IsRow h' v ns) its (ts.map k) := by rw [ei]; exact paired_rows hrow'
    obtain ⟨κ, hκ, hkind⟩ := rows_kind (s := { s with heap := h' }) (by rw [ei, List.length_map]; exact hlen2) hp (List.mem_map.mpr ⟨te, hte, hke⟩)
    refine ⟨κ, fun Q E hq => hkind _ _ E Q hq, ?_⟩
    have at_ : ∀ v ∈ its, IsRow h' v (k (adO v)) := fun v hv => by
      rw [ei] at hv
      obtain ⟨t, ht, rfl⟩ := List.mem_map.mp hv
      exact hrow' t ht
    intro p q hp hq
    have hu2 : X.A.in1.in1.units < cLine := by show X.A.units + 1 + 1 < cLine; omega
    rcases hκ with rfl | rfl
    · exact lt_gen (Q := fun r s' => s' = _ ∧ r = HT.lexLt (k (adO p.1)) (k (adO q.1))) (E := fun _ _ => False) (s := { s with heap := h' }) hu2 (at_ p.1 hp) (at_ q.1 hq) ⟨rfl, rfl⟩
    · exact lt_one (Q := fun r s' => s' = _ ∧ r = HT.lexLt (k (adO p.1)) (k (adO q.1))) (E := fun _ _ => False) (s := { s with heap := h' }) hu2 (at_ p.1 hp) (at_ q.1 hq) ⟨rfl, rfl⟩
  · obtain ⟨ep, he⟩ := PyProof.Rows.sortedAll_at s.heap its out.toArray
    have eo : out = (out.map adO).map Value.ref := ref_map fun u hm => by
      have hm' : u ∈ its := h2.perm.mem_iff.mp hm
      rw [ei] at hm'
      obtain ⟨t, _, e⟩ := List.mem_map.mp hm'
      exact ⟨t, e.symm⟩
    have hp : (out.map adO).Perm ts := by
      have p1 := h2.perm.map adO
      rw [ei, ad_map] at p1
      exact p1
    have hs : (out.map adO).Pairwise (fun p q => HT.lexLt (k q) (k p) = false) := List.pairwise_map.mpr (h1.imp fun {x y} z => z)
    have rvo : Vals ((out.map adO).map V.ref) out := by
      have z := of_nts (out.map adO)
      rw [← eo] at z
      exact z
    refine ⟨.ref _, upd H (s.heap.objs.size + 1) (.lst ((out.map adO).map V.ref)), I.laid (t' := s.toks) (fun _ _ => PyProof.Rows.sortedAll_old) (Nat.le_succ _) ⟨?_, out, ep, rvo, he⟩, rfl, q _ hp hs _ (I.hok.fresh (Nat.le_succ _))⟩
    rw [List.length_map, hp.length_eq]
    exact hz
def rSortC (K : PySem.W.Frag) : List V → Hp → VK → Prop := fun vs H Q => rSortB K vs H Q ∨ rSortRT K vs H Q
theorem cr_sortC {X : Cx} (hu : X.A.units + 65 < cLine) : CallR X (.builtin "sorted") (rSortC X.K) := by
  intro pins s σ H vs us Q I r h
  rcases h with h | h
  · exact cr_sortB hu pins s σ H vs us Q I r h
  · exact cr_sortRT hu pins s σ H vs us Q I r h
/-- rows in a list or a tuple -/
def bSortRS : List S → (S → Prop) → Prop := fun ss Q => match ss with
  | [s] => ∃ L : List (List Nat), (s.d = .list (L.map tup) ∨ s.d = .tuple (L.map tup)) ∧ Q (.own (sortD (L.map tup)))
  | _ => False
theorem lift_sortRS {K : PySem.W.Frag} : LiftA K (rSortC K) bSortRS := by
  intro Z G H vs ss Q Qd o h b k
  unfold bSortRS at b
  split at b
  · rename_i s
    obtain ⟨L, e | e, b⟩ := b
    · exact .inl (lift_sortR (K := K) Z G H vs [s] Q Qd o h ⟨L, e, b⟩ k)
    · by_cases c : 2 ≤ L.length → [] ∈ L
      · obtain ⟨v, rfl, h1⟩ := svs1 h
        obtain ⟨a, xs, rfl, q1, q2⟩ := h1.tup o e
        obtain ⟨ts, rfl, hp⟩ := rows_at q2
        obtain ⟨r1, r2⟩ := rows_of hp
        have hlen : ts.length = L.length := by rw [← r1, List.length_map]
        refine .inr ⟨a, ts, fun t => (rowOf G t).map fun n : Nat => (n : Int), rfl, sqT_mono o.s q1, fun t ht => ?_, fun hl2 => ?_, fun ts' hp' hs p hp2 => ?_⟩
        · rw [List.map_map]
          exact o.s _ _ (r2 t ht)
        · have hm := c (by omega)
          rw [← r1] at hm
          obtain ⟨t, ht, et⟩ := List.mem_map.mp hm
          exact ⟨t, ht, by dsimp only; rw [et]; rfl⟩
        · have dM : DqAll K G (ts'.map V.ref) ((ts'.map (rowOf G)).map tup) := by
            have all : ∀ t ∈ ts', G t = some (.tup ((rowOf G t).map fun n : Nat => V.int (n : Int))) := fun t ht => r2 t (hp'.mem_iff.mp ht)
            clear hp' hs
            induction ts' with
            | nil => exact .nil
            | cons t ts' ih =>
              refine .cons ?_ (ih fun u hu => all u (List.mem_cons_of_mem _ hu))
              refine .tup (all t List.mem_cons_self) ?_
              have q := DqAll.ints_of (K := K) (G := G) ((rowOf G t).map fun n : Nat => (n : Int))
              rw [List.map_map, List.map_map] at q
              exact q
          have eD : sortD (L.map tup) = (ts'.map (rowOf G)).map tup := sortD_is (by rw [← r1]; exact hp'.map _) (List.pairwise_map.mpr (hs.imp fun {a b} z => z))
          rw [eD] at b
          exact k _ _ _ _ (.newL o hp2 dM) b
      · obtain ⟨v, rfl, h1⟩ := svs1 h
        obtain ⟨a, xs, rfl, q1, q2⟩ := h1.tup o e
        have c2 : ¬ [] ∈ L := fun hm => c fun _ => hm
        exact .inl (.inl (lift_sorted (K := K) Z G H [.ref a] [s] Q Qd o h (by unfold bSorted; dsimp only; rw [e]; exact ⟨⟨⟨alike_tups L, sortable_tups c2⟩, dep_tups L⟩, b⟩) k))
  · exact b.elim
end DL

set_option Elab.async false
set_option linter.all false
set_option maxRecDepth 100000
set_option maxHeartbeats 4000000
/-! DL15: >= of rows; max of a list; int of an int; three stores at once; d[k]. -/
namespace DL
open PySem PySem.Spec PyProof.Rows L2
/-! >= of rows of ints -/
theorem lexAt_ge : ∀ (as bs ns ms : List Int), Ob.lexAt (fun j => decide ((as ++ ns).getD j 0 = (bs ++ ms).getD j 0)) (fun j => decide ((bs ++ ms).getD j 0 ≤ (as ++ ns).getD j 0)) (decide (ms.length ≤ ns.length)) as.length (min ns.length ms.length) = !HT.lexLt ns ms ∨ as.length ≠ bs.length
  | as, bs, [], [] => by left; rfl
  | as, bs, [], y :: ys => by
    left
    rw [List.length_nil, Nat.zero_min, Ob.lexAt_zero, HT.lexLt_nil_cons, List.length_cons]
    exact decide_eq_false (by omega)
  | as, bs, x :: xs, [] => by
    left
    rw [List.length_nil, Nat.min_zero, Ob.lexAt_zero, HT.lexLt_cons_nil]
    exact decide_eq_true (Nat.zero_le _)
  | as, bs, x :: xs, y :: ys => by
    by_cases hl : as.length = bs.length
    · left
      have h1 : (as ++ x :: xs).getD as.length 0 = x := by simp [List.getD_eq_getElem?_getD]
      have h2 : (bs ++ y :: ys).getD as.length 0 = y := by rw [hl]; simp [List.getD_eq_getElem?_getD]
      rw [List.length_cons, List.length_cons, show min (xs.length + 1) (ys.length + 1) = min xs.length ys.length + 1 by omega, Ob.lexAt_succ, h1, h2, HT.lexLt_cons]
      by_cases e : x = y
      · subst e
        rw [if_pos (decide_eq_true rfl), if_pos rfl]
        rcases lexAt_ge (as ++ [x]) (bs ++ [x]) xs ys with h | h
        · rw [List.length_append, List.length_singleton, List.append_assoc, List.append_assoc] at h
          have e1 : decide (ys.length + 1 ≤ xs.length + 1) = decide (ys.length ≤ xs.length) := by
            rw [Bool.eq_iff_iff, decide_eq_true_eq, decide_eq_true_eq]
            omega
          rw [e1]
          exact h
        · exact absurd (by rw [List.length_append, List.length_append, hl]) h
      · rw [if_neg (by rw [decide_eq_true_eq]; exact e), if_neg e, Bool.eq_iff_iff, decide_eq_true_eq, Bool.not_eq_true', decide_eq_false_iff_not]
        omega
    · exact .inr hl
def rGeT (K : PySem.W.Frag) : R2 := fun x y H Q => ∃ (a b : Addr) (ns ms : List Int), x = .ref a ∧ y = .ref b ∧ SqT K H a (ns.map V.int) ∧ SqT K H b (ms.map V.int) ∧ Q (.bl (!HT.lexLt ns ms)) H
theorem op_geT {X : Cx} (hu : X.A.units < cLine) : OpR X (compareOp .GtE) (rGeT X.K) := by
  intro pins s σ H x y v u Q I rx ry h
  obtain ⟨a, b, ns, ms, rfl, rfl, ha, hb, q⟩ := h
  cases rx
  cases ry
  obtain ⟨ia, ra, pa, _⟩ := I.tuple ha
  obtain ⟨ib, rb, pb, _⟩ := I.tuple hb
  have na : IntsAre ia ns := Vals.ints ra
  have nb : IntsAre ib ms := Vals.ints rb
  have la : ia.toArray.size = ns.length := by rw [List.size_toArray]; exact na.length
  have lb : ib.toArray.size = ms.length := by rw [List.size_toArray]; exact nb.length
  have va : ∀ j (hj : j < ia.toArray.size), ∃ t, ia.toArray[j] = .int (ns.getD j 0) t := fun j hj => PyProof.Rows.IntsAre.int_at na _ _ (by simp at hj; simp [hj])
  have vb : ∀ j (hj : j < ib.toArray.size), ∃ t, ib.toArray[j] = .int (ms.getD j 0) t := fun j hj => PyProof.Rows.IntsAre.int_at nb _ _ (by simp at hj; simp [hj])
  have R := Ob.RcOp.tuples_ge (A := X.A) (s := s) (e := fun j => decide (ns.getD j 0 = ms.getD j 0)) (r := fun j => decide (ms.getD j 0 ≤ ns.getD j 0)) pa pb hu (fun j hj hk => by
    obtain ⟨t, et⟩ := va j hj
    obtain ⟨t2, et2⟩ := vb j hk
    rw [et, et2]
    have z : (ns.getD j 0 == ms.getD j 0) = decide (ns.getD j 0 = ms.getD j 0) := by
      rw [Bool.eq_iff_iff, beq_iff_eq, decide_eq_true_eq]
    rw [← z]
    exact SeqAt.EqAt.int_int _ _ _ _) (fun j hj hk _ => by
    obtain ⟨t, et⟩ := va j hj
    obtain ⟨t2, et2⟩ := vb j hk
    rw [et, et2]
    exact Ob.RcOp.ge_int _ _ _ _)
  rw [la, lb] at R
  have e := (lexAt_ge [] [] ns ms).resolve_right (fun z => z rfl)
  simp only [List.nil_append, List.length_nil] at e
  rw [e] at R
  exact R X.prog X.w X.xe (EP X pins σ Q) ⟨.bl _, H, I, rfl, q⟩
def bGeT : S → S → (S → Prop) → Prop := fun s t Q => ∃ a b : List Nat, s.d = tup a ∧ t.d = tup b ∧ Q (.dat (.bool (!HT.lexLt (a.map fun n : Nat => (n : Int)) (b.map fun n : Nat => (n : Int)))))
theorem tup_ints {K : PySem.W.Frag} {G : Hp} {xs : List V} {l : List Nat} (h : DqAll K G xs (l.map nI)) : xs = (l.map fun n : Nat => (n : Int)).map V.int := by
  have q : DqAll K G xs ((l.map fun n : Nat => (n : Int)).map PyData.int) := by rw [List.map_map]; exact h
  exact q.ints
theorem lift_geT {K : PySem.W.Frag} : Lift2 K (rGeT K) bGeT := by
  intro Z G H v u s t Q Qd o h1 h2 b k
  obtain ⟨a, c, e1, e2, b⟩ := b
  obtain ⟨x, xs, rfl, q1, q2⟩ := h1.tup o (ds := a.map nI) e1
  obtain ⟨y, ys, rfl, q3, q4⟩ := h2.tup o (ds := c.map nI) e2
  have ex := tup_ints q2
  have ey := tup_ints q4
  subst ex ey
  exact ⟨x, y, _, _, rfl, rfl, sqT_mono o.s q1, sqT_mono o.s q3, k _ _ G H (.here o (.bl _)) b⟩
/-! max of a list -/
def bMax : List S → (S → Prop) → Prop := fun ss Q => match ss with
  | [s] => ∃ ns : List Int, s.d = .list (ns.map PyData.int) ∧ 0 < ns.length ∧ ∀ m, m ∈ ns → (∀ y ∈ ns, y ≤ m) → Q (.dat (.int m))
  | _ => False
theorem lift_max {K : PySem.W.Frag} : LiftA K (rMax K) bMax := by
  intro Z G H vs ss Q Qd o h b k
  unfold bMax at b
  split at b
  · obtain ⟨v, rfl, h1⟩ := svs1 h
    obtain ⟨ns, e, hp, b⟩ := b
    obtain ⟨a, xs, rfl, q1, q2⟩ := h1.list o e
    rw [q2.ints] at q1
    exact ⟨a, ns, rfl, q1, hp, fun m h1 h2 => k _ _ G H (.here o (.int _)) (b m h1 h2)⟩
  · exact b.elim
/-! int of an int or a truth value -/
def bInt1 : List S → (S → Prop) → Prop := fun ss Q => match ss with
  | [.dat (.int i)] => Q (.dat (.int i))
  | [.dat (.bool b)] => Q (.dat (.int (if b then 1 else 0)))
  | _ => False
theorem lift_int1 {K : PySem.W.Frag} : LiftA K (fun xs H Q => (∃ i, xs = [.int i] ∧ Q (.int i) H) ∨ ∃ k, xs = [.bl k] ∧ Q (.int (if k then 1 else 0)) H) bInt1 := by
  intro Z G H vs ss Q Qd o h b k
  unfold bInt1 at b
  split at b
  · obtain ⟨v, rfl, h1⟩ := svs1 h
    exact .inl ⟨_, by rw [h1.int], k _ _ G H (.here o (.int _)) b⟩
  · obtain ⟨v, rfl, h1⟩ := svs1 h
    exact .inr ⟨_, by rw [h1.bl], k _ _ G H (.here o (.int _)) b⟩
  · exact b.elim
section
variable {K : PySem.W.Frag} {mg : Str → Option Value} {W : WX} {X : Cx} {pos : Pos}
/-! a, b, c = x, y, z -/
def τPar3 (i j l : Nat) (a b c : DT) : DTS := fun x M ρ => a x ρ fun s => b x ρ fun t => c x ρ fun u => noBor s ∧ noBor t ∧ noBor u ∧ M.nx (stv (stv (stv ρ i (some s)) j (some t)) l (some u))
theorem ds_par3 {i j l : Nat} {x y z : Str} {a b c : Expr} {ta tb tc : TE} {τa τb τc : DT} {px py pz pt : Pos} {kt k2 pt2} (hc : X.calm = true) (hN : X.N.Nodup) (hi : X.N[i]? = some x) (hj : X.N[j]? = some y) (hl : X.N[l]? = some z) (hij : i ≠ j) (hil : i ≠ l) (hjl : j ≠ l)
    (hx : X.env.scope.names.lookup x = some .local) (hy : X.env.scope.names.lookup y = some .local) (hz : X.env.scope.names.lookup z = some .local) (da : DE K mg W X a ta τa) (db : DE K mg W X b tb τb) (dc : DE K mg W X c tc τc)
    (hw : swappedStores [.Tuple [.Name x px, .Name y py, .Name z pz] kt pt] (.Tuple [a, b, c] k2 pt2) X.env = pure (some [x, y, z]))
    (hs : swapsWithSole [.Tuple [.Name x px, .Name y py, .Name z pz] kt pt] (.Tuple [a, b, c] k2 pt2) pos.line X.env = pure false := by rfl)
    (s1 : starEach [a, b, c] X.env = (false, eval a X.env) :: starEach [b, c] X.env := by rfl) (s2 : starEach [b, c] X.env = (false, eval b X.env) :: starEach [c] X.env := by rfl) (s3 : starEach [c] X.env = (false, eval c X.env) :: starEach [] X.env := by rfl) :
    DS K mg W X (.Assign [.Tuple [.Name x px, .Name y py, .Name z pz] kt pt] (.Tuple [a, b, c] k2 pt2) pos) (tPar3 i j l (tCons ta (tCons tb (tCons tc tNil)))) (τPar3 i j l τa τb τc) := by
  refine ⟨ps_par3 hc hN hi hj hl hij hil hjl hx hy hz (pa_cons da.pe (pa_cons db.pe (pa_cons dc.pe pa_nil s3) s2) s1) hw hs, fun Z G0 H0 x hx E M en σ ρ G H R h => ?_⟩
  refine da.sem Z G0 H0 x hx σ ρ G H _ _ R h fun s v G1 H1 g1 h1 => ?_
  refine db.sem Z G0 H0 x hx σ ρ G1 H1 _ _ (R.mono g1.ext g1.ok) h1 fun t u G2 H2 g2 h2 => ?_
  refine dc.sem Z G0 H0 x hx σ ρ G2 H2 _ _ ((R.mono g1.ext g1.ok).mono g2.ext g2.ok) h2 fun r w G3 H3 g3 h3 => ?_
  exact ⟨v, u, w, rfl, en.nx _ _ G3 H3 (((R.put g1 (noBor_ne h3.1)).put g2 (noBor_ne h3.2.1)).put g3 (noBor_ne h3.2.2.1)) h3.2.2.2⟩
/-! d[k] -/
inductive DLook : List (D × D) → D → D → Prop
  | here {k v : D} {r : List (D × D)} : DLook ((k, v) :: r) k v
  | there {k k' v v' : D} {r : List (D × D)} : k' ≠ k → DLook r k v → DLook ((k', v') :: r) k v
theorem dqK_look {G : Hp} {k : Key} {d : D} : ∀ {xs : List (Key × V)} {kvs : List (D × D)}, DqK K G xs kvs → DLook kvs (keyD k) d → ∃ v, valV xs k = some v ∧ Dq K G v d
  | _, _, .nil, h => nomatch h
  | _, _, .cons (k := j) (v := v) h1 h2, h => by
    by_cases e : j = k
    · subst e
      cases h with
      | here => exact ⟨v, valV_pos rfl, h1⟩
      | there n _ => exact absurd rfl n
    · generalize ek : keyD k = kk at h
      cases h with
      | here => exact absurd (keyD_inj ek.symm) e
      | there n h =>
        subst ek
        obtain ⟨w, e1, e2⟩ := dqK_look h2 h
        exact ⟨w, by rw [valV_neg e]; exact e1, e2⟩
theorem dqT_look {G : Hp} {k : List Key} {d : D} : ∀ {xs : List (List Key × V)} {kvs : List (D × D)}, DqT K G xs kvs → DLook kvs (.tuple (k.map keyD)) d → ∃ v, valV xs k = some v ∧ Dq K G v d
  | _, _, .nil, h => nomatch h
  | _, _, .cons (k := j) (v := v) h1 h2, h => by
    by_cases e : j = k
    · subst e
      cases h with
      | here => exact ⟨v, valV_pos rfl, h1⟩
      | there n _ => exact absurd rfl n
    · generalize ek : PyData.tuple (k.map keyD) = kk at h
      cases h with
      | here => exact absurd (keyDs_inj (PyData.tuple.inj ek.symm)) e
      | there n h =>
        subst ek
        obtain ⟨w, e1, e2⟩ := dqT_look h2 h
        exact ⟨w, by rw [valV_neg e]; exact e1, e2⟩
/-- a dict that is looked at: one of the def's own, made just now, with keys that are no tuples -/
def τDGetK (a b : DT) : DT := fun x ρ Q => a x ρ fun s => b x ρ fun y => match s, y with
  | .dct false kvs, .dat dk => ∃ (k : Key) (v : D), dk = keyD k ∧ DLook kvs dk v ∧ Q (.dat v)
  | _, _ => False
theorem de_dgetK {o i : Expr} {td ty : TE} {τd τy : DT} (hu : X.A.units + 1 < cLine) (a : DE K mg W X o td τd) (b : DE K mg W X i ty τy) (hs : NoSl i := by intro _ _; rfl) : DE K mg W X (.Subscript o i pos) (tDGet td ty) (τDGetK τd τy) := by
  refine ⟨pe_dget hu a.pe b.pe hs, fun Z G0 H0 x hx σ ρ G H Q Qd R h k => ?_⟩
  refine a.sem Z G0 H0 x hx σ ρ G H _ _ R h fun s v G1 H1 g1 h1 => ?_
  refine b.sem Z G0 H0 x hx σ ρ G1 H1 _ _ (R.mono g1.ext g1.ok) h1 fun y u G2 H2 g2 h2 => ?_
  split at h2
  · rename_i s' y' kvs dk
    obtain ⟨kk, d, rfl, hl, h2⟩ := h2
    obtain ⟨l, w, rfl, e1, e2, e3, e4⟩ := g1.sv.mono g2.ext
    obtain ⟨xs, rfl, cx⟩ := (show ∃ xs, w = .dK xs ∧ DqK K G2 xs kvs from e2)
    obtain ⟨vv, f1, f2⟩ := dqK_look cx hl
    have ey := dqKey kk u (show Dq K G2 u (keyD kk) from g2.sv)
    subst ey
    exact ⟨l, vv, rfl, .inl ⟨xs, kk, .inl e1, rfl, f1.symm⟩, k _ _ G2 H2 (.after g1.ext (.after g2.ext (.here g2.ok f2))) h2⟩
  · exact h2.elim
/-! {i: v, j: w} of ints -/
theorem de_disp_ii {p1 p2 p3 p4 : Pos} {i j v w : Int} {j1 j2 j3 j4} (hij : i ≠ j) (pe : PE X (.Dict [some (.Constant (.int i) j1 p1), some (.Constant (.int j) j2 p2)] [.Constant (.int v) j3 p3, .Constant (.int w) j4 p4] pos) (tDisp [(tC (.int i), tC (.int v)), (tC (.int j), tC (.int w))]) := by
      exact pe_disp (pps_cons pe_int pe_int (pps_cons pe_int pe_int pps_nil)) rfl rfl (by simp) (by decide)) :
    DE K mg W X (.Dict [some (.Constant (.int i) j1 p1), some (.Constant (.int j) j2 p2)] [.Constant (.int v) j3 p3, .Constant (.int w) j4 p4] pos) (tDisp [(tC (.int i), tC (.int v)), (tC (.int j), tC (.int w))])
      (fun _ _ Q => Q (.dct false [(.int i, .int v), (.int j, .int w)])) := by
  refine ⟨pe, fun Z G0 H0 x hx σ ρ G H Q Qd R h k p hp => ?_⟩
  refine ⟨upd_same, [(.inl i, .int v), (.inl j, .int w)], rfl, (show 2 ≤ 15 by decide), ?_⟩
  have e : mergeK ([] : List (Key × V)) [(.inl i, .int v), (.inl j, .int w)] = [(.inl i, .int v), (.inl j, .int w)] := by
    have hne : ¬ (Sum.inl i : Key) = Sum.inl j := fun z => hij (Sum.inl.inj z)
    simp [mergeK, putK, hne]
  rw [e, upd_upd]
  exact k _ _ _ _ (.newD R.ok hp (show DctOf K G false (.dK [(.inl i, .int v), (.inl j, .int w)]) [(.int i, .int v), (.int j, .int w)] from ⟨_, rfl, .cons (k := .inl i) (.int v) (.cons (k := .inl j) (.int w) .nil)⟩)) h
end
theorem hu0 {A : Around} {k : Nat} (hr : Room k A) : A.units < cLine := by
  have := hu4 hr
  omega
end DL

set_option Elab.async false
set_option linter.all false
set_option maxRecDepth 100000
set_option maxHeartbeats 4000000
namespace Law
open PySem PySem.Spec PyProof.Rows L2 DL Mb
/-! ### there and back -/
theorem up_sub_len {a b : List Nat} (ha : a.Pairwise (· < ·)) (hb : b.Pairwise (· < ·)) (h : ∀ x ∈ a, x ∈ b) (hne : a ≠ b) : a.length < b.length := by
  have h1 := nodup_le (up_nodup ha) h
  rcases Nat.lt_or_eq_of_le h1 with h2 | h2
  · exact h2
  · refine absurd (rising_ext ha hb fun x => ⟨h x, fun hx => ?_⟩) hne
    by_cases hxa : x ∈ a
    · exact hxa
    · have h3 := nodup_le (l := x :: a) (List.nodup_cons.mpr ⟨hxa, up_nodup ha⟩) (m := b) fun y hy => by
        rcases List.mem_cons.mp hy with rfl | hy
        · exact hx
        · exact h y hy
      rw [List.length_cons] at h3
      omega
theorem minOf_iff {sets : List (List Nat)} {one : List Nat} : minOf sets one = true ↔ ∀ o ∈ sets, (∀ x ∈ o, x ∈ one) → o = one := by
  unfold minOf
  rw [flt_nil, List.all_eq_true]
  refine forall_congr' fun o => forall_congr' fun _ => ?_
  by_cases e : o = one
  · simp [e]
  · rw [decide_eq_true (show o ≠ one from e), Bool.true_and, Bool.not_eq_true']
    constructor
    · intro h hw
      rw [isW_iff.mpr hw] at h
      cases h
    · intro h
      cases r : isW o one with
      | false => rfl
      | true => exact absurd (h (isW_iff.mp r)) e
theorem exists_least {n : Nat} {sets : List (List Nat)} (ok : SetsOk n sets) : ∀ (k : Nat) (s : List Nat), s.length ≤ k → s ∈ sets → ∃ m ∈ leastOf sets, ∀ x ∈ m, x ∈ s := by
  intro k
  induction k with
  | zero =>
    intro s hk hs
    have e : s = [] := List.length_eq_zero_iff.mp (by omega)
    subst e
    refine ⟨[], mem_leastOf.mpr ⟨hs, minOf_iff.mpr fun o ho h => ?_⟩, fun x hx => hx⟩
    cases o with
    | nil => rfl
    | cons a o => exact nomatch h a List.mem_cons_self
  | succ k ih =>
    intro s hk hs
    by_cases hm : minOf sets s = true
    · exact ⟨s, mem_leastOf.mpr ⟨hs, hm⟩, fun x hx => hx⟩
    · have h1 : ¬ ∀ o ∈ sets, (∀ x ∈ o, x ∈ s) → o = s := fun h => hm (minOf_iff.mpr h)
      obtain ⟨o, h1⟩ := Classical.not_forall.mp h1
      obtain ⟨ho, h1⟩ := Classical.not_forall.mp h1
      obtain ⟨hw, hne⟩ := Classical.not_forall.mp h1
      have hl := up_sub_len (ok.up o ho) (ok.up s hs) hw hne
      obtain ⟨m, h2, h3⟩ := ih o (by omega) ho
      exact ⟨m, h2, fun x hx => hw x (h3 x hx)⟩
theorem hits_least {n : Nat} {sets : List (List Nat)} (ok : SetsOk n sets) (l : List Nat) : Hits sets l ↔ Hits (leastOf sets) l := by
  constructor
  · exact fun h s hs => h s (mem_leastOf.mp hs).1
  · intro h s hs
    obtain ⟨m, h1, h2⟩ := exists_least ok s.length s (Nat.le_refl _) hs
    obtain ⟨x, h3, h4⟩ := h m h1
    exact ⟨x, h2 x h3, h4⟩
theorem minHit_least {n : Nat} {sets : List (List Nat)} (ok : SetsOk n sets) (l : List Nat) : MinHit sets l ↔ MinHit (leastOf sets) l := by
  unfold MinHit
  rw [hits_least ok]
  refine and_congr_right fun _ => and_congr_right fun _ => forall_congr' fun x => forall_congr' fun _ => ?_
  rw [hits_least ok]
theorem exists_minHit {sets : List (List Nat)} : ∀ (k : Nat) (l : List Nat), l.length ≤ k → l.Pairwise (· < ·) → Hits sets l → ∃ m, MinHit sets m ∧ ∀ x ∈ m, x ∈ l := by
  intro k
  induction k with
  | zero =>
    intro l hk hl hh
    have e : l = [] := List.length_eq_zero_iff.mp (by omega)
    subst e
    exact ⟨[], ⟨hl, hh, fun n hn => by cases hn⟩, fun x hx => hx⟩
  | succ k ih =>
    intro l hk hl hh
    by_cases hm : ∀ n ∈ l, ¬ Hits sets (l.filter fun m => decide (m ≠ n))
    · exact ⟨l, ⟨hl, hh, hm⟩, fun x hx => hx⟩
    · obtain ⟨n, hm⟩ := Classical.not_forall.mp hm
      obtain ⟨hn, hm⟩ := Classical.not_forall.mp hm
      have hm := Classical.not_not.mp hm
      have hlen : (l.filter fun m => decide (m ≠ n)).length < l.length := by
        rw [List.length_filter_lt_length_iff_exists]
        exact ⟨n, hn, by simp⟩
      obtain ⟨m, h1, h2⟩ := ih _ (by omega) (hl.filter _) hm
      exact ⟨m, h1, fun x hx => (List.mem_filter.mp (h2 x hx)).1⟩
/-- without a row within, the rest hits all rows: there is a least hitting set beside -/
theorem beside {n : Nat} {sets : List (List Nat)} (ok : SetsOk n sets) (T : List Nat) (h : ∀ s ∈ sets, ∃ x ∈ s, x ∉ T) : ∃ m, MinHit sets m ∧ ∀ x ∈ m, x ∉ T := by
  obtain ⟨m, h1, h2⟩ := exists_minHit (sets := sets) (compl n T).length (compl n T) (Nat.le_refl _) (compl_up n T) fun s hs => by
    obtain ⟨x, h3, h4⟩ := h s hs
    exact ⟨x, h3, mem_compl.mpr ⟨ok.lt s hs x h3, h4⟩⟩
  exact ⟨m, h1, fun x hx => (mem_compl.mp (h2 x hx)).2⟩
theorem dual {n : Nat} {sets F : List (List Nat)} (ok : SetsOk n sets) (hF : ∀ l, l ∈ F ↔ MinHit sets l) (r : List Nat) : MinHit F r ↔ r ∈ leastOf sets := by
  have row_hits : ∀ s ∈ sets, Hits F s := fun s hs l hl => by
    obtain ⟨x, h1, h2⟩ := ((hF l).mp hl).2.1 s hs
    exact ⟨x, h2, h1⟩
  -- a hitting set of F holds a row
  have holds : ∀ T, Hits F T → ∃ s ∈ sets, ∀ x ∈ s, x ∈ T := fun T hT => Classical.byContradiction fun hno => by
    obtain ⟨m, h1, h2⟩ := beside ok T fun s hs => Classical.byContradiction fun hx => hno ⟨s, hs, fun x hxs => Classical.byContradiction fun hxt => hx ⟨x, hxs, hxt⟩⟩
    obtain ⟨x, h3, h4⟩ := hT m ((hF m).mpr h1)
    exact h2 x h3 h4
  constructor
  · intro h
    obtain ⟨s, hs, h1⟩ := holds r h.2.1
    obtain ⟨m, hm, h2⟩ := exists_least ok s.length s (Nat.le_refl _) hs
    have hms := (mem_leastOf.mp hm).1
    have e : m = r := by
      refine rising_ext (ok.up m hms) h.1 fun x => ⟨fun hx => h1 x (h2 x hx), fun hx => ?_⟩
      by_cases hxm : x ∈ m
      · exact hxm
      · refine absurd (fun l hl => ?_) (h.2.2 x hx)
        obtain ⟨y, h3, h4⟩ := row_hits m hms l hl
        exact ⟨y, h3, List.mem_filter.mpr ⟨h1 y (h2 y h4), decide_eq_true fun z => hxm (z ▸ h4)⟩⟩
    exact e ▸ hm
  · intro h
    obtain ⟨hs, hm⟩ := mem_leastOf.mp h
    refine ⟨ok.up r hs, row_hits r hs, fun x hx hh => ?_⟩
    obtain ⟨s, h1, h2⟩ := holds _ hh
    have e := minOf_iff.mp hm s h1 fun y hy => (List.mem_filter.mp (h2 y hy)).1
    subst e
    have := (List.mem_filter.mp (h2 x hx)).2
    simp at this
/-! order of rows -/
abbrev lexR (a b : List Nat) : Bool := HT.lexLt (a.map fun n : Nat => (n : Int)) (b.map fun n : Nat => (n : Int))
abbrev SortedR (L : List (List Nat)) : Prop := L.Pairwise fun a b => lexR b a = false
theorem sortT_sorted (L : List (List Nat)) : SortedR (sortT L) := by
  have t := leD_total
  have h := List.pairwise_mergeSort (le := leT) (fun a b c => t.trans (tup a) (tup b) (tup c)) (fun a b => by rcases t.total (tup a) (tup b) with h | h <;> simp [leT, h]) L
  refine h.imp fun {a b} hab => ?_
  have q : leD (tup a) (tup b) = true := hab
  rw [leD_tups] at q
  simpa using q
theorem lex_eq : ∀ {a b : List Nat}, lexR a b = false → lexR b a = false → a = b
  | [], [], _, _ => rfl
  | [], y :: ys, h, _ => by cases h
  | x :: xs, [], _, h => by cases h
  | x :: xs, y :: ys, h1, h2 => by
    unfold lexR at h1 h2
    rw [List.map_cons, List.map_cons, HT.lexLt_cons] at h1 h2
    by_cases e : (x : Int) = y
    · rw [if_pos e] at h1
      rw [if_pos e.symm] at h2
      rw [lex_eq h1 h2, show x = y by omega]
    · rw [if_neg e] at h1
      rw [if_neg (fun z => e z.symm)] at h2
      simp at h1 h2
      omega
theorem leastFold_sub {sets : List (List Nat)} : ∀ (l F : List (List Nat)), ∃ r, l.foldl (leastStep sets) F = F ++ r ∧ r.Sublist l
  | [], F => ⟨[], by simp, .refl _⟩
  | a :: l, F => by
    rw [List.foldl_cons]
    obtain ⟨r, e, h⟩ := leastFold_sub (sets := sets) l (leastStep sets F a)
    rw [e]
    unfold leastStep
    split
    · exact ⟨a :: r, by rw [List.append_assoc]; rfl, h.cons_cons a⟩
    · exact ⟨r, rfl, h.cons a⟩
theorem leastOf_sorted (sets : List (List Nat)) : SortedR (leastOf sets) := by
  obtain ⟨r, e, h⟩ := leastFold_sub (sets := sets) (sortT sets) []
  unfold leastOf
  rw [e, List.nil_append]
  exact (sortT_sorted sets).sublist h
end Law

set_option Elab.async false
set_option linter.all false
set_option maxRecDepth 100000
set_option maxHeartbeats 4000000
namespace Law
open PySem PySem.Spec PyProof.Rows L2 DL Mb
/-- the rows have w least hitting sets -/
def Counted (rows : List (List Nat)) (w : Nat) : Prop := ∃ H : List (List Nat), H.Nodup ∧ H.length = w ∧ ∀ l, l ∈ H ↔ MinHit rows l
theorem counted_none : Counted [] 1 := ⟨[[]], by simp, rfl, fun l => (minHit_none l).symm⟩
theorem counted_congr {A B : List (List Nat)} {w : Nat} (h : ∀ x, x ∈ A ↔ x ∈ B) (c : Counted A w) : Counted B w := by
  obtain ⟨H, h1, h2, h3⟩ := c
  exact ⟨H, h1, h2, fun l => by rw [h3, minHit_congr h]⟩
theorem minHit_app {A B : List (List Nat)} {NA NB : Nat → Prop} (hA : ∀ s ∈ A, ∀ x ∈ s, NA x) (hB : ∀ s ∈ B, ∀ x ∈ s, NB x) (dis : ∀ x, NA x → ¬ NB x) (l : List Nat) :
    MinHit (A ++ B) l ↔ ∃ a b, MinHit A a ∧ MinHit B b ∧ l = sortN (a ++ b) := by
  classical
  constructor
  · intro h
    have hl : ∀ x ∈ l, NA x ∨ NB x := fun x hx => by
      obtain ⟨s, hs, hxs⟩ := minHit_in h x hx
      rcases List.mem_append.mp hs with hs | hs
      · exact .inl (hA s hs x hxs)
      · exact .inr (hB s hs x hxs)
    have hh := (hits_append A B l).mp h.2.1
    have onA : ∀ m : List Nat, Hits A (m.filter fun x => decide (NA x)) ↔ Hits A m := fun m => hits_on fun s hs x hx => by
      rw [List.mem_filter]
      exact ⟨fun z => z.1, fun z => ⟨z, decide_eq_true (hA s hs x hx)⟩⟩
    have onB : ∀ m : List Nat, Hits B (m.filter fun x => decide (NB x)) ↔ Hits B m := fun m => hits_on fun s hs x hx => by
      rw [List.mem_filter]
      exact ⟨fun z => z.1, fun z => ⟨z, decide_eq_true (hB s hs x hx)⟩⟩
    refine ⟨l.filter fun x => decide (NA x), l.filter fun x => decide (NB x), ⟨h.1.filter _, (onA l).mpr hh.1, fun n hn hc => ?_⟩, ⟨h.1.filter _, (onB l).mpr hh.2, fun n hn hc => ?_⟩, ?_⟩
    · have hn' := List.mem_filter.mp hn
      have hna : NA n := by simpa using hn'.2
      refine h.2.2 n hn'.1 ((hits_append A B _).mpr ⟨(hits_on fun s hs x hx => ?_).mp hc, (hits_on fun s hs x hx => ?_).mp hh.2⟩)
      · rw [List.mem_filter, List.mem_filter, List.mem_filter]
        exact ⟨fun z => ⟨z.1.1, z.2⟩, fun z => ⟨⟨z.1, decide_eq_true (hA s hs x hx)⟩, z.2⟩⟩
      · rw [List.mem_filter]
        exact ⟨fun z => ⟨z, decide_eq_true fun e => dis n hna (e ▸ hB s hs x hx)⟩, fun z => z.1⟩
    · have hn' := List.mem_filter.mp hn
      have hnb : NB n := by simpa using hn'.2
      refine h.2.2 n hn'.1 ((hits_append A B _).mpr ⟨(hits_on fun s hs x hx => ?_).mp hh.1, (hits_on fun s hs x hx => ?_).mp hc⟩)
      · rw [List.mem_filter]
        exact ⟨fun z => ⟨z, decide_eq_true fun e => dis x (hA s hs x hx) (e ▸ hnb)⟩, fun z => z.1⟩
      · rw [List.mem_filter, List.mem_filter, List.mem_filter]
        exact ⟨fun z => ⟨z.1.1, z.2⟩, fun z => ⟨⟨z.1, decide_eq_true (hB s hs x hx)⟩, z.2⟩⟩
    · have nd : (l.filter (fun x => decide (NA x)) ++ l.filter fun x => decide (NB x)).Nodup := List.nodup_append.mpr ⟨(up_nodup h.1).filter _, (up_nodup h.1).filter _, fun a ha b hb e => by
        subst e
        have h1 : NA a := by simpa using (List.mem_filter.mp ha).2
        have h2 : NB a := by simpa using (List.mem_filter.mp hb).2
        exact dis a h1 h2⟩
      refine rising_ext h.1 (sortN_up nd) fun x => ?_
      rw [(sortN_perm _).mem_iff, List.mem_append, List.mem_filter, List.mem_filter, decide_eq_true_eq, decide_eq_true_eq]
      exact ⟨fun z => (hl x z).elim (fun q => .inl ⟨z, q⟩) fun q => .inr ⟨z, q⟩, fun z => z.elim (fun q => q.1) fun q => q.1⟩
  · rintro ⟨a, b, ha, hb, rfl⟩
    have ia : ∀ x ∈ a, NA x := fun x hx => by
      obtain ⟨s, hs, hxs⟩ := minHit_in ha x hx
      exact hA s hs x hxs
    have ib : ∀ x ∈ b, NB x := fun x hx => by
      obtain ⟨s, hs, hxs⟩ := minHit_in hb x hx
      exact hB s hs x hxs
    have nd : (a ++ b).Nodup := List.nodup_append.mpr ⟨up_nodup ha.1, up_nodup hb.1, fun x hx y hy e => by subst e; exact dis x (ia x hx) (ib x hy)⟩
    have mem : ∀ x, x ∈ sortN (a ++ b) ↔ x ∈ a ∨ x ∈ b := fun x => by rw [(sortN_perm _).mem_iff, List.mem_append]
    refine ⟨sortN_up nd, (hits_append A B _).mpr ⟨(hits_on fun s hs x hx => ?_).mp ha.2.1, (hits_on fun s hs x hx => ?_).mp hb.2.1⟩, fun n hn hc => ?_⟩
    · rw [mem]
      exact ⟨.inl, fun z => z.elim id fun q => absurd (ib x q) (dis x (hA s hs x hx))⟩
    · rw [mem]
      exact ⟨.inr, fun z => z.elim (fun q => absurd (hB s hs x hx) (dis x (ia x q))) id⟩
    · obtain ⟨cA, cB⟩ := (hits_append A B _).mp hc
      rcases (mem n).mp hn with hn | hn
      · refine ha.2.2 n hn ((hits_on fun s hs x hx => ?_).mp cA)
        rw [List.mem_filter, List.mem_filter, mem]
        exact ⟨fun z => ⟨z.1.elim id fun q => absurd (ib x q) (dis x (hA s hs x hx)), z.2⟩, fun z => ⟨.inl z.1, z.2⟩⟩
      · refine hb.2.2 n hn ((hits_on fun s hs x hx => ?_).mp cB)
        rw [List.mem_filter, List.mem_filter, mem]
        exact ⟨fun z => ⟨z.1.elim (fun q => absurd (hB s hs x hx) (dis x (ia x q))) id, z.2⟩, fun z => ⟨.inr z.1, z.2⟩⟩
theorem counted_app {A B : List (List Nat)} {NA NB : Nat → Prop} {u v : Nat} (hA : ∀ s ∈ A, ∀ x ∈ s, NA x) (hB : ∀ s ∈ B, ∀ x ∈ s, NB x) (dis : ∀ x, NA x → ¬ NB x) (cA : Counted A u) (cB : Counted B v) : Counted (A ++ B) (u * v) := by
  obtain ⟨HA, a1, a2, a3⟩ := cA
  obtain ⟨HB, b1, b2, b3⟩ := cB
  have ia : ∀ a ∈ HA, ∀ x ∈ a, NA x := fun a ha x hx => by
    obtain ⟨s, hs, hxs⟩ := minHit_in ((a3 a).mp ha) x hx
    exact hA s hs x hxs
  have ib : ∀ a ∈ HB, ∀ x ∈ a, NB x := fun a ha x hx => by
    obtain ⟨s, hs, hxs⟩ := minHit_in ((b3 a).mp ha) x hx
    exact hB s hs x hxs
  have inj : ∀ a ∈ HA, ∀ b ∈ HB, ∀ a' ∈ HA, ∀ b' ∈ HB, sortN (a ++ b) = sortN (a' ++ b') → a = a' ∧ b = b' := fun a ha b hb a' ha' b' hb' e => by
    have mem : ∀ x, (x ∈ a ∨ x ∈ b) ↔ (x ∈ a' ∨ x ∈ b') := fun x => by
      have q : x ∈ sortN (a ++ b) ↔ x ∈ sortN (a' ++ b') := by rw [e]
      rw [(sortN_perm _).mem_iff, (sortN_perm _).mem_iff, List.mem_append, List.mem_append] at q
      exact q
    constructor
    · refine rising_ext ((a3 a).mp ha).1 ((a3 a').mp ha').1 fun x => ⟨fun hx => ?_, fun hx => ?_⟩
      · exact ((mem x).mp (.inl hx)).elim id fun q => absurd (ib b' hb' x q) (dis x (ia a ha x hx))
      · exact ((mem x).mpr (.inl hx)).elim id fun q => absurd (ib b hb x q) (dis x (ia a' ha' x hx))
    · refine rising_ext ((b3 b).mp hb).1 ((b3 b').mp hb').1 fun x => ⟨fun hx => ?_, fun hx => ?_⟩
      · exact ((mem x).mp (.inr hx)).elim (fun q => absurd (ib b hb x hx) (dis x (ia a' ha' x q))) id
      · exact ((mem x).mpr (.inr hx)).elim (fun q => absurd (ib b' hb' x hx) (dis x (ia a ha x q))) id
  refine ⟨HA.flatMap fun a => HB.map fun b => sortN (a ++ b), ?_, ?_, fun l => ?_⟩
  · refine List.pairwise_flatMap.mpr ⟨fun a ha => nodup_map (fun b hb b' hb' e => (inj a ha b hb a ha b' hb' e).2) b1, ?_⟩
    have pw : ∀ {L : List (List Nat)}, L.Nodup → (∀ a ∈ L, a ∈ HA) → L.Pairwise (fun a a' => ∀ x ∈ HB.map fun b => sortN (a ++ b), ∀ y ∈ HB.map fun b => sortN (a' ++ b), x ≠ y) := by
      intro L hL hm
      induction hL with
      | nil => exact .nil
      | @cons a L h1 h2 ih =>
        refine .cons (fun a' ha' => ?_) (ih fun x hx => hm x (List.mem_cons_of_mem _ hx))
        intro x h3 y h4 e
        obtain ⟨b, hb, rfl⟩ := List.mem_map.mp h3
        obtain ⟨b', hb', rfl⟩ := List.mem_map.mp h4
        exact h1 a' ha' (inj a (hm a List.mem_cons_self) b hb a' (hm a' (List.mem_cons_of_mem _ ha')) b' hb' e).1
    exact pw a1 fun a ha => ha
  · have : ∀ L : List (List Nat), (L.flatMap fun a => HB.map fun b => sortN (a ++ b)).length = L.length * HB.length := fun L => by
      induction L with
      | nil => simp
      | cons a L ih => rw [List.flatMap_cons, List.length_append, List.length_map, ih, List.length_cons, Nat.succ_mul, Nat.add_comm]
    rw [this, a2, b2]
  · rw [minHit_app hA hB dis, List.mem_flatMap]
    constructor
    · rintro ⟨a, ha, h⟩
      obtain ⟨b, hb, rfl⟩ := List.mem_map.mp h
      exact ⟨a, b, (a3 a).mp ha, (b3 b).mp hb, rfl⟩
    · rintro ⟨a, b, ha, hb, rfl⟩
      exact ⟨a, (a3 a).mpr ha, List.mem_map.mpr ⟨b, (b3 b).mpr hb, rfl⟩⟩
/-! other numbers in the same order -/
def Mono (s : Nat) (f : Nat → Nat) : Prop := ∀ i j, i < j → j < s → f i < f j
theorem mono_inj {s : Nat} {f : Nat → Nat} (h : Mono s f) {i j : Nat} (hi : i < s) (hj : j < s) (e : f i = f j) : i = j := by
  rcases Nat.lt_trichotomy i j with q | q | q
  · have := h i j q hj; omega
  · exact q
  · have := h j i q hi; omega
theorem map_up {s : Nat} {f : Nat → Nat} (h : Mono s f) {l : List Nat} (hl : l.Pairwise (· < ·)) (hs : ∀ x ∈ l, x < s) : (l.map f).Pairwise (· < ·) := by
  refine List.pairwise_map.mpr ?_
  exact hl.imp_of_mem fun {a b} ha hb hab => h a b hab (hs b hb)
theorem mem_mapf {s : Nat} {f : Nat → Nat} (h : Mono s f) {l : List Nat} (hs : ∀ x ∈ l, x < s) {i : Nat} (hi : i < s) : f i ∈ l.map f ↔ i ∈ l := by
  rw [List.mem_map]
  constructor
  · rintro ⟨j, hj, e⟩
    rw [← mono_inj h (hs j hj) hi e]
    exact hj
  · exact fun hi => ⟨i, hi, rfl⟩
theorem minHit_map {s : Nat} {f : Nat → Nat} (h : Mono s f) {rows : List (List Nat)} (ok : SetsOk s rows) (l : List Nat) : MinHit (rows.map fun r => r.map f) l ↔ ∃ l0, MinHit rows l0 ∧ l = l0.map f := by
  have hits : ∀ l0 : List Nat, (∀ x ∈ l0, x < s) → (Hits (rows.map fun r => r.map f) (l0.map f) ↔ Hits rows l0) := fun l0 h0 => by
    constructor
    · intro hh r hr
      obtain ⟨x, h1, h2⟩ := hh _ (List.mem_map.mpr ⟨r, hr, rfl⟩)
      obtain ⟨i, h3, rfl⟩ := List.mem_map.mp h1
      exact ⟨i, h3, (mem_mapf h h0 (ok.lt r hr i h3)).mp h2⟩
    · intro hh r hr
      obtain ⟨r0, hr0, rfl⟩ := List.mem_map.mp hr
      obtain ⟨i, h3, h4⟩ := hh r0 hr0
      exact ⟨f i, List.mem_map.mpr ⟨i, h3, rfl⟩, List.mem_map.mpr ⟨i, h4, rfl⟩⟩
  have flt : ∀ (l0 : List Nat) (n : Nat), (∀ x ∈ l0, x < s) → n < s → (l0.map f).filter (fun m => decide (m ≠ f n)) = (l0.filter fun m => decide (m ≠ n)).map f := fun l0 n h0 hn => by
    rw [List.filter_map]
    congr 1
    refine List.filter_congr fun m hm => ?_
    show decide (f m ≠ f n) = decide (m ≠ n)
    rw [Bool.eq_iff_iff, decide_eq_true_eq, decide_eq_true_eq]
    exact ⟨fun q e => q (by rw [e]), fun q e => q (mono_inj h (h0 m hm) hn e)⟩
  have fwd : ∀ l0 : List Nat, (∀ x ∈ l0, x < s) → l0.Pairwise (· < ·) → (MinHit (rows.map fun r => r.map f) (l0.map f) ↔ MinHit rows l0) := fun l0 h0 hp => by
    unfold MinHit
    rw [hits l0 h0]
    constructor
    · rintro ⟨_, h2, h3⟩
      refine ⟨hp, h2, fun n hn hc => h3 (f n) (List.mem_map.mpr ⟨n, hn, rfl⟩) ?_⟩
      rw [flt l0 n h0 (h0 n hn), hits _ fun x hx => h0 x (List.mem_filter.mp hx).1]
      exact hc
    · rintro ⟨_, h2, h3⟩
      refine ⟨map_up h hp h0, h2, fun n hn hc => ?_⟩
      obtain ⟨i, hi, rfl⟩ := List.mem_map.mp hn
      refine h3 i hi ?_
      rw [flt l0 i h0 (h0 i hi), hits _ fun x hx => h0 x (List.mem_filter.mp hx).1] at hc
      exact hc
  constructor
  · intro hl
    have e : l = ((List.range s).filter fun i => decide (f i ∈ l)).map f := by
      have hp : ((List.range s).filter fun i => decide (f i ∈ l)).Pairwise (· < ·) := List.Pairwise.filter _ List.pairwise_lt_range
      refine rising_ext hl.1 (map_up h hp fun x hx => List.mem_range.mp (List.mem_filter.mp hx).1) fun x => ?_
      rw [List.mem_map]
      constructor
      · intro hx
        obtain ⟨r, hr, hxr⟩ := minHit_in hl x hx
        obtain ⟨r0, hr0, rfl⟩ := List.mem_map.mp hr
        obtain ⟨i, hi, rfl⟩ := List.mem_map.mp hxr
        exact ⟨i, List.mem_filter.mpr ⟨List.mem_range.mpr (ok.lt r0 hr0 i hi), decide_eq_true hx⟩, rfl⟩
      · rintro ⟨i, hi, rfl⟩
        simpa using (List.mem_filter.mp hi).2
    refine ⟨_, ?_, e⟩
    rw [e] at hl
    exact (fwd _ (fun x hx => List.mem_range.mp (List.mem_filter.mp hx).1) (List.Pairwise.filter _ List.pairwise_lt_range)).mp hl
  · rintro ⟨l0, h0, rfl⟩
    exact (fwd l0 (minHit_lt ok h0) h0.1).mpr h0
theorem counted_map {s : Nat} {f : Nat → Nat} (h : Mono s f) {rows : List (List Nat)} (ok : SetsOk s rows) {w : Nat} (c : Counted rows w) : Counted (rows.map fun r => r.map f) w := by
  obtain ⟨H, h1, h2, h3⟩ := c
  refine ⟨H.map fun r => r.map f, nodup_map (fun a ha b hb e => ?_) h1, by rw [List.length_map]; exact h2, fun l => ?_⟩
  · have la := minHit_lt ok ((h3 a).mp ha)
    have lb := minHit_lt ok ((h3 b).mp hb)
    refine rising_ext ((h3 a).mp ha).1 ((h3 b).mp hb).1 fun x => ⟨fun hx => ?_, fun hx => ?_⟩
    · exact (mem_mapf h lb (la x hx)).mp (by rw [← e]; exact List.mem_map.mpr ⟨x, hx, rfl⟩)
    · exact (mem_mapf h la (lb x hx)).mp (by rw [e]; exact List.mem_map.mpr ⟨x, hx, rfl⟩)
  · rw [minHit_map h ok, List.mem_map]
    exact ⟨fun ⟨a, q1, q2⟩ => ⟨a, (h3 a).mp q1, q2.symm⟩, fun ⟨a, q1, q2⟩ => ⟨a, (h3 a).mpr q1, q2.symm⟩⟩
/-! the lots -/
theorem counted_subs {s w : Nat} {rows : List (List Nat)} (ok : SetsOk s rows) (h : ((subs (List.range s)).filter (minB rows)).length = w) : Counted rows w :=
  ⟨_, (subs_nodup (up_nodup List.pairwise_lt_range)).filter _, h, fun l => (subs_min List.pairwise_lt_range (fun r hr x hx => List.mem_range.mpr (ok.lt r hr x hx)) l).symm⟩
def rowsK (s k : Nat) : List (List Nat) := (subs (List.range s)).filter fun l => decide (l.length = k)
def rowsC (s : Nat) : List (List Nat) := (List.range s).map fun k => if k + 1 < s then [k, k + 1] else [0, k]
theorem rowsK_ok (s k : Nat) : SetsOk s (rowsK s k) := setsOk_iff.mpr fun l hl => ⟨(subs_up (List.mem_filter.mp hl).1).1, (subs_up (List.mem_filter.mp hl).1).2.1⟩
theorem counted_K : Counted (rowsK 4 2) 4 ∧ Counted (rowsK 5 2) 5 ∧ Counted (rowsK 4 3) 6 ∧ Counted (rowsK 5 3) 10 :=
  ⟨counted_subs (rowsK_ok 4 2) (by decide +kernel), counted_subs (rowsK_ok 5 2) (by decide +kernel), counted_subs (rowsK_ok 4 3) (by decide +kernel), counted_subs (rowsK_ok 5 3) (by decide +kernel)⟩
theorem rowsC_ok : SetsOk 4 (rowsC 4) ∧ SetsOk 5 (rowsC 5) := ⟨⟨by decide +kernel, by decide +kernel⟩, ⟨by decide +kernel, by decide +kernel⟩⟩
theorem counted_C : Counted (rowsC 4) 2 ∧ Counted (rowsC 5) 5 := ⟨counted_subs rowsC_ok.1 (by decide +kernel), counted_subs rowsC_ok.2 (by decide +kernel)⟩
end Law

set_option Elab.async false
set_option linter.all false
set_option maxRecDepth 100000
set_option maxHeartbeats 4000000
namespace Law
open PySem PySem.Spec PyProof.Rows L2 DL Mb
def sp46__law_least_of : DSp := fun ss _ Q => ∃ (s : S) (sets : List (List Nat)), Short sets ∧ ss = [s] ∧ isSeq s (sets.map tup) ∧ Q (.own ((leastOf sets).map tup))
def sp__law_rest : DSp := fun ss _ Q => ∃ (n : Nat) (L : List (List Nat)), (n ≤ 20 ∧ L.length ≤ 2000 ∧ (2 ≤ L.length → [] ∉ L.map (compl n))) ∧ ss = [.dat (nI n), .dat (.tuple (L.map tup))] ∧ Q (.dat (.tuple ((sortT (L.map (compl n))).map tup)))
structure Lot46 (ns : List Nat) (rows : List (List Nat)) (w : Nat) : Prop where
  up : ∀ r ∈ rows, r.Pairwise (· < ·)
  mem : ∀ r ∈ rows, ∀ x ∈ r, x ∈ ns
  len : rows.length ≤ 10
  cnt : Counted rows w
  pos : 1 ≤ w
  le : w ≤ 10
def sp__law_lot_of_rows : DSp := fun ss _ Q => ∃ ns : List Nat, ((ns.length = 4 ∨ ns.length = 5) ∧ ns.Pairwise (· < ·)) ∧ ss = [.tok, .dat (.list (ns.map nI))] ∧ ∀ rows w, Lot46 ns rows w → Q (.dat (.tuple [.list (rows.map tup), nI w]))
structure ManyOk (sets : List (List Nat)) (w : Nat) : Prop where
  ok : SetsOk 20 sets
  len : sets.length ≤ 30
  cnt : Counted sets w
  pos : 1 ≤ w
  le : w ≤ 100
def sp__law_many_rows : DSp := fun ss _ Q => ss = [.tok] ∧ ∀ sets w, ManyOk sets w → Q (.dat (.tuple [.tuple (sets.map tup), nI w]))
-- N [(0, 'sets'), (1, 'found'), (2, 'one'), (3, 'within'), (4, 'other'), (5, 'n')] {'one'} set()
def τ46__law_least_of : DTS :=
  (τSeq (τAsg (τLst τNil) (γName 1))
    (τSeq (τFor (τIter (τCB bSortRS (τCons (τVar 0) τNil))) (γName 2)
    (τSeq (τAsg (τLc (τIterB (τVar 0)) (γName 4) (τAnd (τTest (τOp bNe (τVar 4) (τVar 2))) (τTest (τOp bEq (τLc (τIterB (τVar 4)) (γName 5) (τTest (τOp (bIn true) (τVar 5) (τVar 2))) (τVar 5) [5]) (τLst τNil)))) (τVar 4) [4]) (γName 3))
    (τIfS (τAnd (τTest (τOp bEq (τVar 3) (τLst τNil))) (τTest (τOp (bIn true) (τVar 2) (τVar 1))))
    (τApp 1 (τVar 2))
    τNext)))
    (τRetV 1)))
-- N [(0, 'flow'), (1, 'numbers'), (2, 'way'), (3, 'size'), (4, 'rows'), (5, 'lot'), (6, 'k')] {'numbers', 'size'} set()
def τ__law_lot_of_rows_r1 : DTS :=
  (τSeq (τAsg (τLc (τRng1 (τCons (τVar 3) τNil)) (γName 6) τYes (τCB bTuple (τCons (τCB bSorted (τCons (τTup (τCons (τOp bIx (τVar 1) (τVar 6)) (τCons (τOp bIx (τVar 1) (τOp (bI (fun _ j => 0 < j) fun i j => .int (i % j)) (τCB bInt1 (τCons (τOp bPlus (τVar 6) (τC (.int 1))) τNil)) (τVar 3))) τNil))) τNil)) τNil)) [6]) (γName 4))
    (τFrz 4 (τRet (τTup (τCons (τVar 4) (τCons (τDGetK (fun _ _ Q => Q (.dct false [(.int 4, .int 2), (.int 5, .int 5)])) (τVar 3)) τNil))))))
def τ__law_lot_of_rows_r2 : DTS :=
  (τSeq (τIfS (τTest (τOp bEq (τVar 2) (τC (.int 1))))
    (τRet (τTup (τCons (τLc (τIterB (τCall sp__law_subsets (τCons (τVar 1) τNil))) (γName 5) (τTest (τOp bEq (τCB bLen (τCons (τVar 5) τNil)) (τC (.int 3)))) (τVar 5) [5]) (τCons (τDGetK (fun _ _ Q => Q (.dct false [(.int 4, .int 6), (.int 5, .int 10)])) (τVar 3)) τNil))))
    τNext)
    τ__law_lot_of_rows_r1)
def τ__law_lot_of_rows : DTS :=
  (τSeq (τAsg (τCall sp__law_draw (τCons (τVar 0) (τCons (τC (.int 3)) τNil))) (γName 2))
    (τSeq (τAsg (τCB bLen (τCons (τVar 1) τNil)) (γName 3))
    (τSeq (τIfS (τTest (τOp bEq (τVar 2) (τC (.int 0))))
    (τRet (τTup (τCons (τLc (τIterB (τCall sp__law_subsets (τCons (τVar 1) τNil))) (γName 5) (τTest (τOp bEq (τCB bLen (τCons (τVar 5) τNil)) (τC (.int 2)))) (τVar 5) [5]) (τCons (τVar 3) τNil))))
    τNext)
    τ__law_lot_of_rows_r2)))
-- N [(0, 'flow'), (1, 'left'), (2, 'rows'), (3, 'many'), (4, 'turn'), (5, 'size'), (6, 'more'), (7, 'ways')] set() set()
def τ__law_many_rows : DTS :=
  (τSeq (τPar3 1 2 3 (τCall sp__law_mixed (τCons (τVar 0) (τCons (τLstRg (τRg1 (τC (.int 20)))) τNil))) (τLst τNil) (τC (.int 1)))
    (τSeq (τFor (τRng1 (τCons (τCall sp__law_pick (τCons (τVar 0) (τCons (τLst (τCons (τC (.int 1)) (τCons (τC (.int 1)) (τCons (τC (.int 2)) (τCons (τC (.int 2)) τNil))))) τNil))) τNil)) (γName 4)
    (τSeq (τAsg (τOp bPlus (τC (.int 4)) (τCall sp__law_draw (τCons (τVar 0) (τCons (τC (.int 2)) τNil)))) (γName 5))
    (τSeq (τAsg (τCall sp__law_lot_of_rows (τCons (τVar 0) (τCons (τCB bSorted (τCons (τSl (τVar 1) τNoPart (τPart (τVar 5))) τNil)) τNil))) (γTup 2 (γCons (γName 6) (γCons (γName 7) γNil))))
    (τSeq (τAsg (τSl (τVar 1) (τPart (τVar 5)) τNoPart) (γName 1))
    (τSeq (τAsg (τOp bPlus (τVar 2) (τVar 6)) (γName 2))
    (τAsg (τOp (bI CMulX fun i j => .int (i * j)) (τVar 3) (τVar 7)) (γName 3)))))))
    (τRet (τTup (τCons (τCB bTuple (τCons (τCall sp__law_mixed (τCons (τVar 0) (τCons (τOp bPlus (τVar 2) (τSl (τVar 2) τNoPart (τPart (τC (.int 2))))) τNil))) τNil)) (τCons (τVar 3) τNil))))))
-- N [(0, 'size'), (1, 'sets'), (2, 'one'), (3, 'n')] {'size'} {'one'}
def τ__law_rest : DTS :=
  (τRet (τCB bTuple (τCons (τCB bSorted (τCons (τLc (τIterB (τVar 1)) (γName 2) τYes (τCB bTuple (τCons (τLc (τRng1 (τCons (τVar 0) τNil)) (γName 3) (τTest (τOp (bIn true) (τVar 3) (τVar 2))) (τVar 3) [3]) τNil)) [2]) τNil)) τNil)))
local macro_rules | `(tactic| walk_at "dl") => `(tactic| simp only [τPar3, bInt1, bMax, γTup, γCons, γNil, τFrzD, τDNew, τDPut, τCallN, bNotB, bIsB, bMin2, bMax2, g3v, τSeq, τAsg, τRet, τRetV, τOp, τC, τVar, τCons, consQ, τNil, τTup, τLst, τCB, τLc, τIterB, τIter, τRng1, τRng2, τPar, τLstRg, τRg1, τRg2, τTest, τTru, tru, τNot, τAnd, τOr, τAndV, τOrV, τNotV, τIf, τIfS, τSl, τPart, τNoPart, τFor, τApp, τExt, τFrz, τNever, τNext, τCall, callQ, anyBor, layAll, S.lay, S.d, S.fz, noBor, γName, lk, stv, DL.envOf, noneL, wipeE, bI0, bI, bPlus, bEq, bNe, bIx, bSl, bLen, bSum, bTuple, bList, bMaxDef, datas, τBits, τUn, τYes, τIsi, dctB, S.liv, lcStep, reduceIte, Bool.false_eq_true, List.length_cons, List.length_nil, Nat.reduceAdd, Nat.sub_self, Nat.reduceSub, true_and, and_true, Nat.zero_le, List.nil_append, ne_eq, reduceCtorEq, not_false_eq_true, ty_tt, ty_ti, ty_bi, ty_si, ty_ii, isNone, bIsN, bNotN, Bool.not_true, Bool.not_false, Bool.true_eq_false, beq_self_eq_true, sh_int, sh_bool, sh_nil, sh_nilT, S.solid, DL.solid, DL.solidAll, eqv_int, eqv_nil, eqv_nilT, and_self, decide_eq_true_eq, Option.map_some])
theorem sem46__law_least_of (ss : List S) (x : Xn) (Q : S → Prop) (h : sp46__law_least_of ss x Q) : τ46__law_least_of x { nx := fun _ => Q (.dat .none), rt := Q } (DL.envOf ss 6) := by
  obtain ⟨s, sets, ⟨hl, hr⟩, rfl, hs, q⟩ := h
  have e := sl_eq
  unfold τ46__law_least_of
  rcases hs with rfl | rfl
  · walk_at "dl"
    refine ⟨sets, .inl rfl, ?_⟩
    rw [sortD_T]
    refine forL_pre tup (sortT sets) (fun pre ρ => ∃ a b c d, ρ = [some (.dat (.list (sets.map tup))), some (.own ((pre.foldl (leastStep sets) []).map tup)), a, b, c, d]) ⟨_, _, _, _, rfl⟩ (fun pre one post es ρ kk ⟨a, b, c, d, e1⟩ hkk => ?_) fun ρ ⟨a, b, c, d, e1⟩ => ?_
    · subst e1
      have hone : one ∈ sets := (sortT_perm sets).mem_iff.mp (by rw [es]; simp)
      have hlen : (pre.foldl (leastStep sets) []).length ≤ 1000 := by
        have h1 := leastFold_len sets pre []
        have h2 := congrArg List.length es
        rw [sortT_len, List.length_append, List.length_cons] at h2
        rw [List.length_nil] at h1
        omega
      walk_at "dl"
      refine lcL_filtA (fun o : List Nat => decide (o ≠ one) && isW o one) tup (fun o ho acc k ha' hk1 hk2 => ?_) (by omega) ?_
      · simp only [lcStep, γName, τAnd, τTest, τOp, τVar, lk, stv, bNe, S.d, eqv_tup, ne_eq, reduceCtorEq, not_false_eq_true, true_and]
        refine ⟨⟨sh_tup o, sh_tup one⟩, ?_⟩
        by_cases hoo : o = one
        · rw [if_neg (by simp [hoo])]
          exact hk2 (by simp [hoo])
        · rw [if_pos (by simp [hoo])]
          refine lc_notin (i := 5) (j := 2) o one rfl rfl rfl (hr o ho) (fun _ => rfl) (fun _ => rfl) ?_
          walk_at "dl"
          refine ⟨sh_nIs _, ?_⟩
          rw [isW_flt]
          cases r : isW o one with
          | false => rw [if_neg (by decide)]; exact hk2 (by rw [r, Bool.and_false])
          | true => rw [if_pos rfl]; exact ⟨ha', hk1 (by rw [r, Bool.and_true]; exact decide_eq_true hoo)⟩
      · walk_at "dl"
        refine ⟨sh_tups _, ?_⟩
        rw [List.isEmpty_map]
        have hm : (sets.filter fun o => decide (o ≠ one) && isW o one).isEmpty = minOf sets one := rfl
        rw [hm]
        have step : ∀ F, F = leastStep sets (pre.foldl (leastStep sets) []) one → (pre ++ [one]).foldl (leastStep sets) [] = F := fun F hF => by
          rw [List.foldl_append, hF]; rfl
        cases r : minOf sets one with
        | false =>
          rw [if_neg (by decide)]
          refine hkk _ ⟨_, _, _, _, by rw [step _ rfl, leastStep_no (by rw [r, Bool.false_and])]⟩
        | true =>
          rw [if_pos rfl]
          unfold bIn
          walk_at "dl"
          rw [any_tup]
          refine ⟨⟨sh_tup one, sh_tups _⟩, ?_⟩
          cases r2 : decide (one ∈ pre.foldl (leastStep sets) []) with
          | true =>
            rw [if_neg (by decide)]
            refine hkk _ ⟨_, _, _, _, by rw [step _ rfl, leastStep_no (by rw [r2, Bool.not_true, Bool.and_false])]⟩
          | false =>
            rw [if_pos (by decide)]
            rw [List.length_map]
            refine ⟨by omega, hkk _ ⟨_, _, _, _, by rw [step _ rfl, leastStep_yes (by rw [r, r2]; rfl), List.map_append]; rfl⟩⟩
    · subst e1
      walk_at "dl"
      exact q
  · walk_at "dl"
    refine ⟨sets, .inr rfl, ?_⟩
    rw [sortD_T]
    refine forL_pre tup (sortT sets) (fun pre ρ => ∃ a b c d, ρ = [some (.dat (.tuple (sets.map tup))), some (.own ((pre.foldl (leastStep sets) []).map tup)), a, b, c, d]) ⟨_, _, _, _, rfl⟩ (fun pre one post es ρ kk ⟨a, b, c, d, e1⟩ hkk => ?_) fun ρ ⟨a, b, c, d, e1⟩ => ?_
    · subst e1
      have hone : one ∈ sets := (sortT_perm sets).mem_iff.mp (by rw [es]; simp)
      have hlen : (pre.foldl (leastStep sets) []).length ≤ 1000 := by
        have h1 := leastFold_len sets pre []
        have h2 := congrArg List.length es
        rw [sortT_len, List.length_append, List.length_cons] at h2
        rw [List.length_nil] at h1
        omega
      walk_at "dl"
      refine lcL_filtA (fun o : List Nat => decide (o ≠ one) && isW o one) tup (fun o ho acc k ha' hk1 hk2 => ?_) (by omega) ?_
      · simp only [lcStep, γName, τAnd, τTest, τOp, τVar, lk, stv, bNe, S.d, eqv_tup, ne_eq, reduceCtorEq, not_false_eq_true, true_and]
        refine ⟨⟨sh_tup o, sh_tup one⟩, ?_⟩
        by_cases hoo : o = one
        · rw [if_neg (by simp [hoo])]
          exact hk2 (by simp [hoo])
        · rw [if_pos (by simp [hoo])]
          refine lc_notin (i := 5) (j := 2) o one rfl rfl rfl (hr o ho) (fun _ => rfl) (fun _ => rfl) ?_
          walk_at "dl"
          refine ⟨sh_nIs _, ?_⟩
          rw [isW_flt]
          cases r : isW o one with
          | false => rw [if_neg (by decide)]; exact hk2 (by rw [r, Bool.and_false])
          | true => rw [if_pos rfl]; exact ⟨ha', hk1 (by rw [r, Bool.and_true]; exact decide_eq_true hoo)⟩
      · walk_at "dl"
        refine ⟨sh_tups _, ?_⟩
        rw [List.isEmpty_map]
        have hm : (sets.filter fun o => decide (o ≠ one) && isW o one).isEmpty = minOf sets one := rfl
        rw [hm]
        have step : ∀ F, F = leastStep sets (pre.foldl (leastStep sets) []) one → (pre ++ [one]).foldl (leastStep sets) [] = F := fun F hF => by
          rw [List.foldl_append, hF]; rfl
        cases r : minOf sets one with
        | false =>
          rw [if_neg (by decide)]
          refine hkk _ ⟨_, _, _, _, by rw [step _ rfl, leastStep_no (by rw [r, Bool.false_and])]⟩
        | true =>
          rw [if_pos rfl]
          unfold bIn
          walk_at "dl"
          rw [any_tup]
          refine ⟨⟨sh_tup one, sh_tups _⟩, ?_⟩
          cases r2 : decide (one ∈ pre.foldl (leastStep sets) []) with
          | true =>
            rw [if_neg (by decide)]
            refine hkk _ ⟨_, _, _, _, by rw [step _ rfl, leastStep_no (by rw [r2, Bool.not_true, Bool.and_false])]⟩
          | false =>
            rw [if_pos (by decide)]
            rw [List.length_map]
            refine ⟨by omega, hkk _ ⟨_, _, _, _, by rw [step _ rfl, leastStep_yes (by rw [r, r2]; rfl), List.map_append]; rfl⟩⟩
    · subst e1
      walk_at "dl"
      exact q
theorem sem__law_rest (ss : List S) (x : Xn) (Q : S → Prop) (h : sp__law_rest ss x Q) : τ__law_rest x { nx := fun _ => Q (.dat .none), rt := Q } (DL.envOf ss 4) := by
  obtain ⟨n, L, ⟨hn, hl, hne⟩, rfl, q⟩ := h
  have e := sl_eq
  unfold τ__law_rest
  walk_at "dl"
  refine lcL_mapA (fun l : List Nat => tup (compl n l)) (fun l hl' acc k ha hk => ?_) (by omega) ?_
  · walk_at "dl"
    refine ⟨by omega, ?_⟩
    rw [Int.toNat_natCast, rg_nI]
    refine lc_notin (i := 3) (j := 2) (List.range n) l rfl rfl rfl (by rw [List.length_range]; omega) (fun _ => rfl) (fun _ => rfl) ?_
    exact ⟨ha, hk⟩
  · refine bSorted_tups (L := L.map (compl n)) (by rw [List.map_map]; rfl) (fun h2 => hne (by rw [List.length_map] at h2; exact h2)) ?_
    walk_at "dl"
    rw [sortD_T]
    exact q
theorem subs_map (f : Nat → Nat) (l : List Nat) : subs (l.map f) = (subs l).map fun r => r.map f := by
  refine snoc_ind (P := fun l => subs (l.map f) = (subs l).map fun r => r.map f) rfl (fun l a ih => ?_) l
  rw [List.map_append, List.map_cons, List.map_nil, subs_snoc, subs_snoc, ih, List.map_append, List.map_map, List.map_map]
  congr 1
  refine List.map_congr_left fun r _ => ?_
  show r.map f ++ [f a] = (r ++ [a]).map f
  rw [List.map_append]
  rfl
theorem ns_map (ns : List Nat) : ns = (List.range ns.length).map fun i => ns.getD i 0 := by
  refine List.ext_getElem (by simp) fun i h1 h2 => ?_
  rw [List.getElem_map, List.getElem_range, List.getD_eq_getElem?_getD, List.getElem?_eq_getElem h1]
  rfl
theorem ns_mono {ns : List Nat} (h : ns.Pairwise (· < ·)) : Mono ns.length fun i => ns.getD i 0 := fun i j hij hj => by
  have hi : i < ns.length := by omega
  show ns.getD i 0 < ns.getD j 0
  rw [List.getD_eq_getElem?_getD, List.getD_eq_getElem?_getD, List.getElem?_eq_getElem hi, List.getElem?_eq_getElem hj]
  exact List.pairwise_iff_getElem.mp h i j hi hj hij
theorem subsK_map {ns : List Nat} (k : Nat) : (subs ns).filter (fun l => decide (l.length = k)) = (rowsK ns.length k).map fun r => r.map fun i => ns.getD i 0 := by
  have e := subs_map (fun i => ns.getD i 0) (List.range ns.length)
  rw [← ns_map] at e
  rw [e, List.filter_map]
  unfold rowsK
  congr 1
  refine List.filter_congr fun r _ => ?_
  show decide ((r.map _).length = k) = decide (r.length = k)
  rw [List.length_map]
theorem lot_mem {ns : List Nat} {s : Nat} {rows : List (List Nat)} (hs : ns.length = s) (hup : ns.Pairwise (· < ·)) (ok : SetsOk s rows) {w : Nat} (c : Counted rows w) (hl : rows.length ≤ 10) (h1 : 1 ≤ w) (h2 : w ≤ 10) : Lot46 ns (rows.map fun r => r.map fun i => ns.getD i 0) w := by
  have m := ns_mono hup
  rw [hs] at m
  refine ⟨fun r hr => ?_, fun r hr x hx => ?_, by rw [List.length_map]; exact hl, counted_map m ok c, h1, h2⟩
  · obtain ⟨r0, h3, rfl⟩ := List.mem_map.mp hr
    exact map_up m (ok.up r0 h3) (ok.lt r0 h3)
  · obtain ⟨r0, h3, rfl⟩ := List.mem_map.mp hr
    obtain ⟨i, hi, rfl⟩ := List.mem_map.mp hx
    have hlt : i < ns.length := by rw [hs]; exact ok.lt r0 h3 i hi
    show ns.getD i 0 ∈ ns
    rw [List.getD_eq_getElem?_getD, List.getElem?_eq_getElem hlt]
    exact List.getElem_mem hlt
theorem lot_K {ns : List Nat} (h : ns.length = 4 ∨ ns.length = 5) (hup : ns.Pairwise (· < ·)) : Lot46 ns ((subs ns).filter fun l => decide (l.length = 2)) ns.length ∧ ∀ w, (ns.length = 4 → w = 6) → (ns.length = 5 → w = 10) → Lot46 ns ((subs ns).filter fun l => decide (l.length = 3)) w := by
  obtain ⟨c1, c2, c3, c4⟩ := counted_K
  refine ⟨?_, fun w h4 h5 => ?_⟩
  · rw [subsK_map]
    rcases h with e | e
    · rw [e]; exact lot_mem e hup (rowsK_ok 4 2) c1 (by decide +kernel) (by decide) (by decide)
    · rw [e]; exact lot_mem e hup (rowsK_ok 5 2) c2 (by decide +kernel) (by decide) (by decide)
  · rw [subsK_map]
    rcases h with e | e
    · rw [h4 e, e]; exact lot_mem e hup (rowsK_ok 4 3) c3 (by decide +kernel) (by decide) (by decide)
    · rw [h5 e, e]; exact lot_mem e hup (rowsK_ok 5 3) c4 (by decide +kernel) (by decide) (by decide)
theorem cyc_map {ns : List Nat} {s : Nat} (hs : ns.length = s) (h2 : 2 ≤ s) (hup : ns.Pairwise (· < ·)) : ((List.range s).map fun k => sortN [ns.getD k 0, ns.getD ((k + 1) % s) 0]) = (rowsC s).map fun r => r.map fun i => ns.getD i 0 := by
  unfold rowsC
  rw [List.map_map]
  refine List.map_congr_left fun k hk => ?_
  have hk := List.mem_range.mp hk
  have m := ns_mono hup
  rw [hs] at m
  show sortN [ns.getD k 0, ns.getD ((k + 1) % s) 0] = (if k + 1 < s then [k, k + 1] else [0, k]).map fun i => ns.getD i 0
  by_cases h : k + 1 < s
  · rw [if_pos h, Nat.mod_eq_of_lt h]
    have := m k (k + 1) (by omega) h
    exact sortN_of (.refl _) (by simpa using this)
  · rw [if_neg h, show k + 1 = s by omega, Nat.mod_self]
    have := m 0 k (by omega) hk
    exact sortN_of (.swap _ _ _) (by simpa using this)
theorem lot_C {ns : List Nat} (h : ns.length = 4 ∨ ns.length = 5) (hup : ns.Pairwise (· < ·)) : ∀ w, (ns.length = 4 → w = 2) → (ns.length = 5 → w = 5) → Lot46 ns ((List.range ns.length).map fun k => sortN [ns.getD k 0, ns.getD ((k + 1) % ns.length) 0]) w := by
  intro w h4 h5
  obtain ⟨c1, c2⟩ := counted_C
  rcases h with e | e
  · rw [h4 e, e, cyc_map e (by decide) hup]; exact lot_mem e hup rowsC_ok.1 c1 (by decide +kernel) (by decide) (by decide)
  · rw [h5 e, e, cyc_map e (by decide) hup]; exact lot_mem e hup rowsC_ok.2 c2 (by decide +kernel) (by decide) (by decide)
theorem ns_at {ns : List Nat} {i : Nat} (h : i < ns.length) : atI (ns.map nI) (i : Int) = some (nI (ns.getD i 0)) := by
  rw [DL.atI_nat, List.getElem?_map, List.getElem?_eq_getElem h, List.getD_eq_getElem?_getD, List.getElem?_eq_getElem h]
  rfl
theorem look2 {s a b : Nat} (h : s = 4 ∨ s = 5) : ∃ w : Nat, DLook [(PyData.int 4, PyData.int a), (.int 5, .int b)] (nI s) (nI w) ∧ (s = 4 → w = a) ∧ (s = 5 → w = b) := by
  rcases h with rfl | rfl
  · exact ⟨a, .here, fun _ => rfl, fun z => by omega⟩
  · exact ⟨b, .there (by simp) .here, fun z => by omega, fun _ => rfl⟩
theorem sem__law_lot_of_rows (ss : List S) (x : Xn) (Q : S → Prop) (h : sp__law_lot_of_rows ss x Q) : τ__law_lot_of_rows x { nx := fun _ => Q (.dat .none), rt := Q } (DL.envOf ss 7) := by
  obtain ⟨ns, ⟨hlen, hup⟩, rfl, q⟩ := h
  have e := sl_eq
  have h5 : ns.length ≤ 5 := by omega
  have hsz : (subs ns).length ≤ 32 := by
    rw [(subs_facts ns).1]
    exact Nat.le_trans (Nat.pow_le_pow_right (n := 2) (by omega) h5) (by decide)
  have flt : ∀ (j : Nat) (R : List D → Prop) (γ : DTG) (τt : DTT) (τe : DT) (env : DEnv), γ = γName 5 → τt = τTest (τOp bEq (τCB bLen (τCons (τVar 5) τNil)) (τC (.int (j : Int)))) → τe = τVar 5 → (∀ l, lk (stv env 5 (some (.dat l))) 5 = some (.dat l)) → R (((subs ns).filter fun l => decide (l.length = j)).map tup) → lcL γ τt τe env ((subs ns).map tup) [] R := by
    intro j R γ τt τe env e1 e2 e3 he hR
    subst e1 e2 e3
    refine lcL_filtA (fun l : List Nat => decide (l.length = j)) tup (fun l hl acc k ha hk1 hk2 => ?_) (by omega) hR
    have q1 := he (tup l)
    simp only [lcStep, γName, τTest, τOp, τCB, τCons, τNil, τVar, τC, q1, consQ]
    unfold tup
    walk_at "dl"
    by_cases hj : l.length = j
    · rw [if_pos (by rw [List.length_map, hj])]
      exact ⟨ha, hk1 (decide_eq_true hj)⟩
    · rw [if_neg (by rw [List.length_map]; omega)]
      exact hk2 (decide_eq_false hj)
  unfold τ__law_lot_of_rows
  walk_at "dl"
  refine ⟨3, by decide, rfl, fun w hw => ?_⟩
  walk_at "dl"
  rw [List.length_map]
  by_cases h0 : (w : Int) = 0
  · rw [if_pos h0]
    refine ⟨ns, by omega, rfl, ?_⟩
    refine flt 2 _ _ _ _ _ rfl rfl rfl (fun _ => rfl) ?_
    exact ⟨by show 2 ≤ sizeLine; omega, q _ _ (lot_K hlen hup).1⟩
  · rw [if_neg h0]
    unfold τ__law_lot_of_rows_r2
    walk_at "dl"
    by_cases h1 : (w : Int) = 1
    · rw [if_pos h1]
      refine ⟨ns, by omega, rfl, ?_⟩
      refine flt 3 _ _ _ _ _ rfl rfl rfl (fun _ => rfl) ?_
      obtain ⟨w', hk, h4, h5'⟩ := look2 (a := 6) (b := 10) hlen
      simp only [τDGetK, τVar, lk]
      refine ⟨.inl (ns.length : Int), nI w', rfl, hk, ?_⟩
      exact ⟨by show 2 ≤ sizeLine; omega, q _ _ ((lot_K hlen hup).2 w' h4 h5')⟩
    · rw [if_neg h1]
      unfold τ__law_lot_of_rows_r1
      walk_at "dl"
      refine ⟨by omega, ?_⟩
      rw [Int.toNat_natCast, rg_nI]
      have fin : ∀ w', (ns.length = 4 → w' = 2) → (ns.length = 5 → w' = 5) → Q (.dat (.tuple [.list ((List.range ns.length).map fun k => tup (sortN [ns.getD k 0, ns.getD ((k + 1) % ns.length) 0])), nI w'])) := fun w' h4 h5' => by
        have := q _ _ (lot_C hlen hup w' h4 h5')
        rw [List.map_map] at this
        exact this
      refine lcL_mapA (fun k : Nat => tup (sortN [ns.getD k 0, ns.getD ((k + 1) % ns.length) 0])) (fun k hk acc kk ha hkk => ?_) (by rw [List.length_range]; omega) ?_
      · have hk' := List.mem_range.mp hk
        have hm : (k + 1) % ns.length < ns.length := Nat.mod_lt _ (by omega)
        walk_at "dl"
        rw [ns_at hk']
        walk_at "dl"
        refine ⟨by omega, ?_⟩
        rw [show ((k : Int) + 1) % (ns.length : Int) = (((k + 1) % ns.length : Nat) : Int) by push_cast; rfl, ns_at hm]
        refine ⟨by omega, bSorted_nIT (l := [ns.getD k 0, ns.getD ((k + 1) % ns.length) 0]) rfl ?_⟩
        exact ⟨ha, hkk⟩
      · obtain ⟨w', hk, h4, h5'⟩ := look2 (a := 2) (b := 5) hlen
        simp only [τDGetK, τVar, lk]
        refine ⟨.inl (ns.length : Int), nI w', rfl, hk, ?_⟩
        exact ⟨by show 2 ≤ sizeLine; omega, fin w' h4 h5'⟩
structure Many46 (lf : List Nat) (R : List (List Nat)) (w k : Nat) : Prop where
  nd : lf.Nodup
  lt : ∀ x ∈ lf, x < 20
  ln : 20 ≤ lf.length + 5 * k
  ok : SetsOk 20 R
  dis : ∀ r ∈ R, ∀ x ∈ r, x ∉ lf
  len : R.length ≤ 10 * k
  cnt : Counted R w
  pos : 1 ≤ w
  le : w ≤ 10 ^ k
theorem many_step {lf : List Nat} {R : List (List Nat)} {w k sz : Nat} (M : Many46 lf R w k) (hk : k < 2) (hsz : sz = 4 ∨ sz = 5) {more : List (List Nat)} {ways : Nat} (L : Lot46 (sortN (lf.take sz)) more ways) : Many46 (lf.drop sz) (R ++ more) (w * ways) (k + 1) := by
  have mem : ∀ x, x ∈ sortN (lf.take sz) ↔ x ∈ lf.take sz := fun x => (sortN_perm _).mem_iff
  have key : ∀ x, x ∈ lf.take sz → x ∉ lf.drop sz := fun x h1 h2 => by
    have := M.nd
    rw [← List.take_append_drop sz lf] at this
    exact (List.nodup_append.mp this).2.2 x h1 x h2 rfl
  refine ⟨M.nd.sublist (List.drop_sublist _ _), fun x hx => M.lt x (List.mem_of_mem_drop hx), by rw [List.length_drop]; have := M.ln; omega, setsOk_iff.mpr fun r hr => ?_, fun r hr x hx => ?_, by rw [List.length_append]; have := M.len; have := L.len; omega, ?_, ?_, ?_⟩
  · rcases List.mem_append.mp hr with hr | hr
    · exact setsOk_iff.mp M.ok r hr
    · exact ⟨L.up r hr, fun x hx => M.lt x (List.mem_of_mem_take ((mem x).mp (L.mem r hr x hx)))⟩
  · rcases List.mem_append.mp hr with hr | hr
    · exact fun z => M.dis r hr x hx (List.mem_of_mem_drop z)
    · exact key x ((mem x).mp (L.mem r hr x hx))
  · exact counted_app (NA := fun x => x ∉ lf) (NB := fun x => x ∈ lf) M.dis (fun r hr x hx => List.mem_of_mem_take ((mem x).mp (L.mem r hr x hx))) (fun x h1 h2 => h1 h2) M.cnt L.cnt
  · exact Nat.mul_pos M.pos L.pos
  · rw [Nat.pow_succ]
    exact Nat.mul_le_mul M.le L.le
theorem intBits_small {w : Nat} (h : w < 2 ^ 30) : Builtin.Int.intBits (w : Int) ≤ 30 := PyProof.Rows.intBits_le (by rw [Int.natAbs_natCast]; exact h)
theorem sem__law_many_rows (ss : List S) (x : Xn) (Q : S → Prop) (h : sp__law_many_rows ss x Q) : τ__law_many_rows x { nx := fun _ => Q (.dat .none), rt := Q } (DL.envOf ss 8) := by
  obtain ⟨rfl, q⟩ := h
  have e := sl_eq
  unfold τ__law_many_rows
  walk_at "dl"
  refine ⟨.of_le (by omega) (by omega) (by omega) (by omega), ?_⟩
  refine ⟨_, (List.range 20).map nI, by rw [List.length_map, List.length_range]; omega, rfl, .inl (by rw [show ((20 : Int) - 0).toNat = 20 from rfl, rg_nI]), fun es hp => ?_⟩
  obtain ⟨lf, rfl, hlf⟩ := perm_nI hp
  refine ⟨trivial, by omega, pick_I [1, 1, 2, 2] rfl (by decide) fun j hj => ?_⟩
  have hj2 : j ≤ 2 := by
    have : ∀ j ∈ [1, 1, 2, 2], j ≤ 2 := by decide
    exact this j hj
  dsimp only
  refine ⟨by omega, ?_⟩
  rw [Int.toNat_natCast]
  refine forL_rng 0 j (fun k ρ => ∃ (lf : List Nat) (R : List (List Nat)) (w : Nat) (a b c d : Option S), ρ = [some .tok, some (.own (lf.map nI)), some (.own (R.map tup)), some (.dat (nI w)), a, b, c, d] ∧ Many46 lf R w k)
    ⟨lf, [], 1, _, _, _, _, rfl, ⟨hlf.nodup_iff.mpr List.nodup_range, fun x hx => List.mem_range.mp (hlf.mem_iff.mp hx), by rw [hlf.length_eq, List.length_range]; omega, setsOk_iff.mpr (by simp), by simp, by simp, counted_none, by decide, by decide⟩⟩
    (fun k hk ρ kk ⟨lf, R, w, a, b, c, d, e1, M⟩ hkk => ?_) fun ρ ⟨lf, R, w, a, b, c, d, e1, M⟩ => ?_
  · subst e1
    walk_at "dl"
    refine ⟨2, by decide, rfl, fun r hr => ?_⟩
    walk_at "dl"
    rw [show (4 : Int) + (r : Int) = ((4 + r : Nat) : Int) by omega, cut_take, ← List.map_take]
    refine bSorted_nI (l := lf.take (4 + r)) rfl ?_
    walk_at "dl"
    have hsz : 4 + r = 4 ∨ 4 + r = 5 := by omega
    have hln := M.ln
    have htk : (sortN (lf.take (4 + r))).length = 4 + r := by
      rw [(sortN_perm _).length_eq, List.length_take]
      omega
    refine ⟨_, ⟨by rw [htk]; exact hsz, sortN_up (M.nd.sublist (List.take_sublist _ _))⟩, rfl, fun more ways L => ?_⟩
    walk_at "dl"
    rw [cut_drop, ← List.map_drop, List.length_map, List.length_map]
    have h1 := M.len
    have h2 := L.len
    refine ⟨by omega, ?_⟩
    have h3 : w ≤ 100 := Nat.le_trans M.le (Nat.le_trans (Nat.pow_le_pow_right (n := 10) (by omega) (by omega : k ≤ 2)) (by decide))
    have h4 := L.le
    refine ⟨?_, hkk _ ⟨lf.drop (4 + r), R ++ more, w * ways, _, _, _, _, by rw [List.map_append]; rfl, many_step M (by omega) hsz L⟩⟩
    have b1 := intBits_small (w := w) (by omega)
    have b2 := intBits_small (w := ways) (by omega)
    unfold CMulX
    omega
  · subst e1
    walk_at "dl"
    rw [show (2 : Int) = ((2 : Nat) : Int) from rfl, cut_take, ← List.map_take, ← List.map_append]
    have h1 := M.len
    refine ⟨by rw [List.length_map, List.length_map, List.length_take]; omega, _, (R ++ R.take 2).map tup, by rw [List.length_map, List.length_append, List.length_take]; omega, rfl, .inl rfl, fun es hp => ?_⟩
    obtain ⟨sets, rfl, hs⟩ := perm_tup hp
    walk_at "dl"
    have mem : ∀ t, t ∈ R ↔ t ∈ sets := fun t => by
      rw [hs.mem_iff, List.mem_append]
      exact ⟨.inl, fun h => h.elim id List.mem_of_mem_take⟩
    refine ⟨by omega, q sets w ⟨setsOk_iff.mpr fun l hl => setsOk_iff.mp M.ok l ((mem l).mpr hl), by rw [hs.length_eq, List.length_append, List.length_take]; omega, counted_congr mem M.cnt, M.pos, Nat.le_trans M.le (Nat.le_trans (Nat.pow_le_pow_right (n := 10) (by omega) hj2) (by decide))⟩⟩
end Law

set_option Elab.async false
set_option linter.all false
set_option maxRecDepth 100000
set_option maxHeartbeats 4000000
namespace Law
open PySem PySem.Spec PyProof.Rows L2 DL Mb
/-- what the law's rows are -/
structure Src (sets : List (List Nat)) (many w : Nat) : Prop where
  ok : SetsOk 20 sets
  len : sets.length ≤ 30
  cnt : Counted sets w
  le : w ≤ 256
  many : many = 0 ∨ many = w
/-- what least_hitting found -/
structure Fnd (sets F : List (List Nat)) : Prop where
  nd : F.Nodup
  mem : ∀ l, l ∈ F ↔ MinHit sets l
  srt : SortedR F
theorem counted_len {sets F : List (List Nat)} {w : Nat} (c : Counted sets w) (h : F.Nodup) (m : ∀ l, l ∈ F ↔ MinHit sets l) : F.length = w := by
  obtain ⟨H, h1, h2, h3⟩ := c
  rw [← h2]
  exact ((List.perm_ext_iff_of_nodup h h1).mpr fun l => by rw [m, h3]).length_eq
theorem lh46 {s : S} {sets : List (List Nat)} {w : Nat} {Q : S → Prop} (hs : isSeq s (sets.map tup)) (ok : SetsOk 20 sets) (hl : sets.length ≤ 4000) (c : Counted sets w) (hw : w ≤ 2000) (q : ∀ F, Fnd sets F → F.length = w → Q (.dat (.tuple (F.map tup)))) : spX_least_hitting [s] x0 Q := by
  refine ⟨s, sets, ⟨ok, hl⟩, rfl, hs, fun L h1 h2 => ⟨fun _ => ?_, fun h => ?_⟩⟩
  · rw [sortD_T]
    have m : ∀ l, l ∈ sortT L ↔ MinHit sets l := fun l => by rw [(sortT_perm L).mem_iff, h2]
    have nd := (sortT_perm L).nodup_iff.mpr h1
    exact q _ ⟨nd, m, sortT_sorted L⟩ (counted_len c nd m)
  · have := counted_len c h1 h2
    omega
theorem lists46 {n w : Nat} {M B F : List (List Nat)} {s t : S} {Q : S → Prop} (hn : n ≤ 20) (okM : SetsOk n M) (aM : ApartRows M) (hM : M.length ≤ 4000) (okB : SetsOk n B) (hB : B.length ≤ 4000) (nF : F.Nodup) (mF : ∀ l, l ∈ F ↔ MinHit M l) (hF : F.length ≤ 2000) (hs : isSeq s (M.map tup)) (ht : isSeq t (B.map tup))
    (q : ∀ b : Bool, (b = true ↔ ApartRows B ∧ ∀ l, l ∈ B.map (compl n) ↔ l ∈ F) → Q (.dat (.bool b))) : spX_are_lists [.dat (nI n), s, t] x0 Q := by
  refine ⟨n, s, t, M, B, ⟨hn, okM, hM, okB, hB⟩, rfl, hs, ht, fun hno => q false ⟨fun z => (by cases z), fun z => absurd ⟨aM, z.1⟩ hno⟩, fun aA aB L hL hm => ⟨fun h => ?_, fun _ b hb => q b ?_⟩⟩
  · have e := ((List.perm_ext_iff_of_nodup hL nF).mpr fun l => by rw [hm, mF]).length_eq
    omega
  · rw [hb]
    have e : ∀ l, l ∈ L ↔ l ∈ F := fun l => by rw [hm, mF]
    exact ⟨fun h => ⟨aB, fun l => (h l).trans (e l)⟩, fun h l => (h.2 l).trans (e l).symm⟩
/-- the numbers of the found sets stand below the size -/
theorem fnd_row {n : Nat} {M F : List (List Nat)} (okM : SetsOk n M) (mF : ∀ l, l ∈ F ↔ MinHit M l) : ∀ l ∈ F, RowIn n l := fun l hl => ⟨((mF l).mp hl).1, minHit_lt okM ((mF l).mp hl)⟩
theorem rest_ok {n : Nat} {F : List (List Nat)} : ∀ l ∈ F.map (compl n), RowIn n l := fun l hl => by
  obtain ⟨r, _, rfl⟩ := List.mem_map.mp hl
  exact ⟨compl_up n r, fun x hx => (mem_compl.mp hx).1⟩
theorem rest_apart {n : Nat} {M F : List (List Nat)} (okM : SetsOk n M) (nF : F.Nodup) (mF : ∀ l, l ∈ F ↔ MinHit M l) : ApartRows (F.map (compl n)) := by
  have row := fnd_row okM mF
  refine ⟨nodup_map (fun a ha b hb e => compl_inj (row a ha).1 (row b hb).1 (row a ha).2 (row b hb).2 e) nF, fun s hs t ht hst => ?_⟩
  obtain ⟨a, ha, rfl⟩ := List.mem_map.mp hs
  obtain ⟨b, hb, rfl⟩ := List.mem_map.mp ht
  have e := minHit_anti ((mF b).mp hb) ((mF a).mp ha) fun x hx => Classical.byContradiction fun hxa => (mem_compl.mp (hst x (mem_compl.mpr ⟨(row b hb).2 x hx, hxa⟩))).2 hx
  rw [e]
theorem compl_back {n : Nat} {M F : List (List Nat)} (okM : SetsOk n M) (mF : ∀ l, l ∈ F ↔ MinHit M l) (l : List Nat) : l ∈ (F.map (compl n)).map (compl n) ↔ l ∈ F := by
  have row := fnd_row okM mF
  rw [List.mem_map]
  constructor
  · rintro ⟨r, hr, rfl⟩
    obtain ⟨a, ha, rfl⟩ := List.mem_map.mp hr
    rw [compl_compl (row a ha).1 (row a ha).2]
    exact ha
  · intro hl
    exact ⟨compl n l, List.mem_map.mpr ⟨l, hl, rfl⟩, compl_compl (row l hl).1 (row l hl).2⟩
/-- without one of them, the lists are not the lists -/
theorem rest_not {n : Nat} {M F D : List (List Nat)} (okM : SetsOk n M) (mF : ∀ l, l ∈ F ↔ MinHit M l) {g : List Nat} (hg : g ∈ F.map (compl n)) (hD : ∀ l ∈ D, RowIn n l) (hgD : g ∉ D) : ¬ ∀ l, l ∈ D.map (compl n) ↔ l ∈ F := fun h => by
  have hgr := rest_ok g hg
  have h1 : compl n g ∈ F := (compl_back okM mF _).mp (List.mem_map.mpr ⟨g, hg, rfl⟩)
  obtain ⟨r, h2, h3⟩ := List.mem_map.mp ((h _).mpr h1)
  exact hgD ((compl_inj (hD r h2).1 hgr.1 (hD r h2).2 hgr.2 h3) ▸ h2)
-- N [(0, 'script'), (1, 'flow'), (2, 'many'), (3, 'sets'), (4, 'found'), (5, 'k'), (6, 'one'), (7, 'least'), (8, 'size'), (9, 'greatest'), (10, 'rest'), (11, 'n')] set() set()
def τ_lawK_r1 : DTS :=
  (τRet (τOp bIsB (τCall spX_are_lists (τCons (τVar 8) (τCons (τVar 7) (τCons (τVar 10) τNil)))) (τC (.bool false))))
def τ_lawK_r2 : DTS :=
  (τRet (τOp bIsB (τCall spX_are_lists (τCons (τVar 8) (τCons (τVar 7) (τCons (τTup (τCons (τTup τNil) τNil)) τNil)))) (τC (.bool false))))
def τ_lawK_r3 : DTS :=
  (τSeq (τIfS (τTest (τOp (bI0 fun i j => .bool (decide (j < i))) (τCB bLen (τCons (τVar 4) τNil)) (τC (.int 0))))
    (τSeq (τAsg (τCall sp__law_draw (τCons (τVar 1) (τCons (τCB bLen (τCons (τVar 4) τNil)) τNil))) (γName 5))
    (τSeq (τAsg (τOp bPlus (τSl (τVar 9) τNoPart (τPart (τVar 5))) (τSl (τVar 9) (τPart (τOp bPlus (τVar 5) (τC (.int 1)))) τNoPart)) (γName 10))
    (τSeq (τIfS (τAnd (τTest (τOp bNe (τOp bIx (τVar 9) (τVar 5)) (τTup τNil))) (τTest (τOp bNotB (τCall spX_are_lists (τCons (τVar 8) (τCons (τVar 7) (τCons (τCB bTuple (τCons (τCB bSortRS (τCons (τOp bPlus (τVar 10) (τTup (τCons (τSl (τOp bIx (τVar 9) (τVar 5)) (τPart (τC (.int 1))) τNoPart) τNil))) τNil)) τNil)) τNil)))) (τC (.bool false)))))
    (τRet (τC (.bool false)))
    τNext)
    τ_lawK_r1)))
    τNext)
    τ_lawK_r2)
def τ_lawK_r4 : DTS :=
  (τSeq (τAsg (τCB bMax (τCons (τOp bPlus (τLst (τCons (τC (.int 0)) τNil)) (τLc (τIterB (τVar 7)) (γName 6) (τTest (τOp bNe (τVar 6) (τTup τNil))) (τOp bPlus (τOp bIx (τVar 6) (τUn (fun i => -i) (τC (.int 1)))) (τC (.int 1))) [6])) τNil)) (γName 8))
    (τSeq (τAsg (τCall sp__law_rest (τCons (τVar 8) (τCons (τVar 4) τNil))) (γName 9))
    (τSeq (τIfS (τOr (τTest (τOp bNotB (τCall spX_are_lists (τCons (τVar 8) (τCons (τVar 7) (τCons (τVar 9) τNil)))) (τC (.bool true)))) (τTest (τOp bNotB (τCallN spX_are_lists (g3v 2 1 0 []) (τCons (τVar 9) (τCons (τVar 7) (τCons (τVar 8) τNil)))) (τC (.bool true)))))
    (τRet (τC (.bool false)))
    τNext)
    τ_lawK_r3)))
def τ_lawK_r5 : DTS :=
  (τIfS (τOr (τTest (τOp bNe (τCB bList (τCons (τVar 6) τNil)) (τCB bSorted (τCons (τVar 6) τNil)))) (τOr (τNot (τTru (τCall sp__law_is_least (τCons (τVar 6) (τCons (τVar 3) τNil))))) (τAnd (τTest (τOp (bI0 fun i j => .bool (decide (j < i))) (τVar 5) (τC (.int 0)))) (τTest (τOp bGeT (τOp bIx (τVar 4) (τOp (bI0 fun i j => .int (i - j)) (τVar 5) (τC (.int 1)))) (τVar 6))))))
    (τRet (τC (.bool false)))
    τNext)
def τ_lawK_r6 : DTS :=
  (τSeq (τFor (τRng1 (τCons (τCB bLen (τCons (τVar 4) τNil)) τNil)) (γName 5)
    (τSeq (τAsg (τOp bIx (τVar 4) (τVar 5)) (γName 6))
    (τSeq (τIfS (τOr (τNot (τTru (τIsi "tuple" (τVar 6)))) (τTest (τOp bNe (τLc (τIterB (τVar 6)) (γName 11) (τOr (τNot (τTru (τIsi "int" (τVar 11)))) (τTru (τIsi "bool" (τVar 11)))) (τVar 11) [11]) (τLst τNil))))
    (τRet (τC (.bool false)))
    τNext)
    τ_lawK_r5)))
    (τSeq (τAsg (τCB bTuple (τCons (τCall sp46__law_least_of (τCons (τVar 3) τNil)) τNil)) (γName 7))
    (τSeq (τIfS (τNot (τTru (τCall (sp_sameB 2) (τCons (τCall spX_least_hitting (τCons (τVar 4) τNil)) (τCons (τVar 7) τNil)))))
    (τRet (τC (.bool false)))
    τNext)
    τ_lawK_r4)))
def τ_lawK_r7 : DTS :=
  (τSeq (τAsg (τCall spX_least_hitting (τCons (τVar 3) τNil)) (γName 4))
    (τSeq (τIfS (τOr (τNot (τTru (τIsi "tuple" (τVar 4)))) (τAnd (τTest (τOp (bI0 fun i j => .bool (decide (j < i))) (τVar 2) (τC (.int 0)))) (τTest (τOp bNe (τCB bLen (τCons (τVar 4) τNil)) (τVar 2)))))
    (τRet (τC (.bool false)))
    τNext)
    τ_lawK_r6))
def τ_lawK : DTS :=
  (τSeq (τAsg (τC (.int 0)) (γName 2))
    (τSeq (τIfS (τTest (τOp bEq (τCall sp__law_draw (τCons (τVar 1) (τCons (τC (.int 2)) τNil))) (τC (.int 0))))
    (τAsg (τCall sp__law_many_rows (τCons (τVar 1) τNil)) (γTup 2 (γCons (γName 3) (γCons (γName 2) γNil))))
    (τAsg (τCall sp__law_drawn_sets (τCons (τVar 1) (τCons (τCB bSorted (τCons (τSl (τCall sp__law_mixed (τCons (τVar 1) (τCons (τLstRg (τRg1 (τC (.int 20)))) τNil))) τNoPart (τPart (τOp bPlus (τC (.int 1)) (τCall sp__law_draw (τCons (τVar 1) (τCons (τC (.int 8)) τNil)))))) τNil)) τNil))) (γName 3)))
    τ_lawK_r7))
local macro_rules | `(tactic| walk_at "dl") => `(tactic| simp only [τPar3, bInt1, bMax, γTup, γCons, γNil, τFrzD, τDNew, τDPut, τCallN, bNotB, bIsB, bMin2, bMax2, g3v, τSeq, τAsg, τRet, τRetV, τOp, τC, τVar, τCons, consQ, τNil, τTup, τLst, τCB, τLc, τIterB, τIter, τRng1, τRng2, τPar, τLstRg, τRg1, τRg2, τTest, τTru, tru, τNot, τAnd, τOr, τAndV, τOrV, τNotV, τIf, τIfS, τSl, τPart, τNoPart, τFor, τApp, τExt, τFrz, τNever, τNext, τCall, callQ, anyBor, layAll, S.lay, S.d, S.fz, noBor, γName, lk, stv, DL.envOf, noneL, wipeE, bI0, bI, bPlus, bEq, bNe, bIx, bSl, bLen, bSum, bTuple, bList, bMaxDef, datas, τBits, τUn, τYes, τIsi, dctB, S.liv, lcStep, reduceIte, Bool.false_eq_true, List.length_cons, List.length_nil, Nat.reduceAdd, Nat.sub_self, Nat.reduceSub, true_and, and_true, Nat.zero_le, List.nil_append, ne_eq, reduceCtorEq, not_false_eq_true, ty_tt, ty_ti, ty_bi, ty_si, ty_ii, isNone, bIsN, bNotN, Bool.not_true, Bool.not_false, Bool.true_eq_false, beq_self_eq_true, sh_int, sh_bool, sh_nil, sh_nilT, S.solid, DL.solid, DL.solidAll, eqv_int, eqv_nil, eqv_nilT, and_self, decide_eq_true_eq, Option.map_some])
theorem eqv_nIs (a b : List Nat) : PyData.eqv (.list (a.map nI)) (.list (b.map nI)) = decide (a = b) := by
  have h := eqv_tup a b
  unfold tup at h
  rw [PyData.eqv] at h
  rw [PyData.eqv]
  exact h
section
variable {x : Xn} {Q : S → Prop} {a : Option S} {many w : Nat} {sets F : List (List Nat)}
/-- one found set is looked at -/
theorem rk5_law (M : DEnds) (S0 : Src sets many w) (f : Fnd sets F) (hl : F.length = w) (k : Nat) (hk : k < F.length) (b7 b8 b9 b10 b11 : Option S)
    (next : M.nx [a, some .tok, some (.dat (nI many)), some (.dat (.tuple (sets.map tup))), some (.dat (.tuple (F.map tup))), some (.dat (nI k)), some (.dat (tup F[k])), b7, b8, b9, b10, b11]) :
    τ_lawK_r5 x M [a, some .tok, some (.dat (nI many)), some (.dat (.tuple (sets.map tup))), some (.dat (.tuple (F.map tup))), some (.dat (nI k)), some (.dat (tup F[k])), b7, b8, b9, b10, b11] := by
  have es := sl_eq
  have hmem : F[k] ∈ F := List.getElem_mem hk
  have hmin := (f.mem _).mp hmem
  have hlen : (F[k]).length ≤ 20 := up_len hmin.1 (minHit_lt S0.ok hmin)
  have hprev : ∀ j, (hj : j + 1 = k) → lexR (F[j]'(by omega)) F[k] = true := fun j hj => by
    have hjl : j < F.length := by omega
    have h1 := List.pairwise_iff_getElem.mp f.srt j k hjl hk (by omega)
    cases r : lexR F[j] F[k] with
    | true => rfl
    | false => exact absurd (lex_eq r h1) (List.pairwise_iff_getElem.mp f.nd j k hjl hk (by omega))
  generalize F[k] = one at *
  unfold τ_lawK_r5
  have i1 : ∀ {R : S → Prop}, R (.own (one.map nI)) → bList [.dat (tup one)] R := fun h => h
  simp only [τIfS, τOr, τTest, τOp, τCB, τCons, τVar, lk, consQ, τNil]
  refine i1 (bSorted_nIT (l := one) rfl ?_)
  rw [sortN_of (.refl _) hmin.1]
  walk_at "dl"
  rw [eqv_nIs, decide_eq_true (show one = one from rfl)]
  refine ⟨sh_nIs _, ?_⟩
  rw [if_neg (by decide)]
  refine ⟨one, sets, ⟨by omega, by have := S0.len; omega, fun t ht => by have := up_len (S0.ok.up t ht) (S0.ok.lt t ht); omega⟩, rfl, ?_⟩
  rw [(minB_iff hmin.1).mpr ((f.mem _).mp hmem)]
  walk_at "dl"
  by_cases h0 : (0 : Int) < (k : Int)
  · rw [if_pos h0]
    obtain ⟨j, rfl⟩ : ∃ j, k = j + 1 := ⟨k - 1, by omega⟩
    have hjl : j < F.length := by omega
    rw [show ((j + 1 : Nat) : Int) - 1 = (j : Int) by omega, rows_at' hjl, getD_mem hjl]
    refine ⟨F[j], one, rfl, rfl, ?_⟩
    have h1 := hprev j rfl
    unfold lexR at h1
    rw [h1]
    exact next
  · rw [if_neg h0]
    exact next
/-- what is known when the size stands -/
structure Lst (sets F : List (List Nat)) (n : Nat) : Prop where
  hn : n ≤ 20
  ok : SetsOk n (leastOf sets)
  len : sets.length ≤ 30
  nF : F.Nodup
  hF : F.length ≤ 256
  mF : ∀ l, l ∈ F ↔ MinHit (leastOf sets) l
theorem Lst.lists {n : Nat} (K : Lst sets F n) {D : List (List Nat)} {t : S} (okD : ∀ l ∈ D, RowIn n l) (hD : D.length ≤ 4000) (ht : isSeq t (D.map tup)) (q : ∀ b : Bool, (b = true ↔ ApartRows D ∧ ∀ l, l ∈ D.map (compl n) ↔ l ∈ F) → Q (.dat (.bool b))) :
    spX_are_lists [.dat (nI n), .dat (.tuple ((leastOf sets).map tup)), t] x0 Q :=
  lists46 (w := 0) K.hn K.ok (leastOf_apart sets) (by have := leastOf_len sets; have := K.len; omega) (setsOk_iff.mpr okD) hD K.nF K.mF (by have := K.hF; omega) (.inr rfl) ht q
theorem Lst.no {n : Nat} (K : Lst sets F n) {D : List (List Nat)} {t : S} (okD : ∀ l ∈ D, RowIn n l) (hD : D.length ≤ 4000) (ht : isSeq t (D.map tup)) (hno : ¬ ∀ l, l ∈ D.map (compl n) ↔ l ∈ F) (q : Q (.dat (.bool false))) :
    spX_are_lists [.dat (nI n), .dat (.tuple ((leastOf sets).map tup)), t] x0 Q := K.lists okD hD ht fun b hb => by
  cases b with
  | false => exact q
  | true => exact absurd (hb.mp rfl).2 hno
theorem Lst.yes {n : Nat} (K : Lst sets F n) {B : List (List Nat)} {t : S} (hB : B.Perm (F.map (compl n))) (ht : isSeq t (B.map tup)) (q : Q (.dat (.bool true))) :
    spX_are_lists [.dat (nI n), .dat (.tuple ((leastOf sets).map tup)), t] x0 Q := K.lists (fun l hl => rest_ok l (hB.mem_iff.mp hl)) (by rw [hB.length_eq, List.length_map]; have := K.hF; omega) ht fun b hb => by
  have : b = true := hb.mpr ⟨apart_perm hB (rest_apart K.ok K.nF K.mF), fun l => by rw [(hB.map _).mem_iff]; exact compl_back K.ok K.mF l⟩
  rw [this]
  exact q
theorem nil_eq {g : List Nat} : PyData.eqv (tup g) (.tuple []) = g.isEmpty := by
  unfold tup
  rw [eqv_nilT, List.isEmpty_map]
theorem rk3_law {n : Nat} (K : Lst sets F n) (q : Q (.dat (.bool true))) (a2 b5 b6 b11 : Option S) {B : List (List Nat)} (hB : B.Perm (F.map (compl n))) :
    τ_lawK_r3 x { nx := fun _ => False, rt := Q } [a, some .tok, a2, some (.dat (.tuple (sets.map tup))), some (.dat (.tuple (F.map tup))), b5, b6, some (.dat (.tuple ((leastOf sets).map tup))), some (.dat (nI n)), some (.dat (.tuple (B.map tup))), none, b11] := by
  have es := sl_eq
  have hF := K.hF
  have hBl : B.length = F.length := by rw [hB.length_eq, List.length_map]
  have okB : ∀ l ∈ B, RowIn n l := fun l hl => rest_ok l (hB.mem_iff.mp hl)
  have ndB : B.Nodup := hB.nodup_iff.mpr (rest_apart K.ok K.nF K.mF).1
  unfold τ_lawK_r3 τ_lawK_r1 τ_lawK_r2
  walk_at "dl"
  rw [List.length_map]
  by_cases h0 : (0 : Int) < (F.length : Int)
  · rw [if_pos h0]
    refine ⟨F.length, by omega, rfl, fun k hk => ?_⟩
    walk_at "dl"
    rw [show (k : Int) + 1 = ((k + 1 : Nat) : Int) by omega, cut_take, cut_drop, ← List.map_take, ← List.map_drop, ← List.map_append]
    have hkB : k < B.length := by omega
    refine ⟨by simp only [List.length_map, List.length_take, List.length_drop]; omega, ?_⟩
    rw [rows_at' hkB, getD_mem hkB]
    have hmem : B[k] ∈ B := List.getElem_mem hkB
    have hrest : ∀ l ∈ B.take k ++ B.drop (k + 1), l ∈ B := fun l hl => by
      rcases List.mem_append.mp hl with h | h
      · exact List.mem_of_mem_take h
      · exact List.mem_of_mem_drop h
    have hlr : (B.take k ++ B.drop (k + 1)).length ≤ 256 := by rw [List.length_append, List.length_take, List.length_drop]; omega
    have hgr : B[k] ∉ B.take k ++ B.drop (k + 1) := fun h => by
      have e : B = B.take k ++ B[k] :: B.drop (k + 1) := by rw [List.getElem_cons_drop, List.take_append_drop]
      have nd : (B.take k ++ B[k] :: B.drop (k + 1)).Nodup := e ▸ ndB
      have := (List.perm_middle.nodup_iff.mp nd)
      exact (List.nodup_cons.mp this).1 h
    have okr : ∀ l ∈ B.take k ++ B.drop (k + 1), RowIn n l := fun l hl => okB l (hrest l hl)
    have hgF : B[k] ∈ F.map (compl n) := hB.mem_iff.mp hmem
    have hgok := okB _ hmem
    generalize B[k] = g at *
    generalize B.take k ++ B.drop (k + 1) = R at *
    walk_at "dl"
    rw [nil_eq]
    refine ⟨sh_tup _, ?_⟩
    have last : ∀ {R2 : S → Prop}, (R2 (.dat (.bool false))) → spX_are_lists [S.dat (nI n), S.dat (PyData.tuple ((leastOf sets).map tup)), S.dat (PyData.tuple (R.map tup))] x0 R2 := fun h => 
      K.no okr (by omega) (.inr rfl) (rest_not K.ok K.mF hgF okr hgr) h
    cases hg : g.isEmpty with
    | true =>
      rw [if_neg (by decide)]
      refine last ?_
      walk_at "dl"
      exact q
    | false =>
      rw [if_pos (by decide)]
      rw [show tup g = PyData.tuple (g.map nI) from rfl]
      walk_at "dl"
      rw [show (1 : Int) = ((1 : Nat) : Int) from rfl, cut_drop, ← List.map_drop]
      have e : R.map tup ++ [PyData.tuple ((g.drop 1).map nI)] = (R ++ [g.drop 1]).map tup := by rw [List.map_append]; rfl
      rw [e]
      refine ⟨by omega, by rw [List.length_map]; omega, R ++ [g.drop 1], .inr rfl, ?_⟩
      walk_at "dl"
      rw [sortD_T]
      have hp := sortT_perm (R ++ [g.drop 1])
      have okd : ∀ l ∈ sortT (R ++ [g.drop 1]), RowIn n l := fun l hl => by
        rcases List.mem_append.mp (hp.mem_iff.mp hl) with h | h
        · exact okr l h
        · rw [List.mem_singleton.mp h]
          exact ⟨hgok.1.sublist (List.drop_sublist _ _), fun x hx => hgok.2 x (List.mem_of_mem_drop hx)⟩
      have hgd : g ∉ sortT (R ++ [g.drop 1]) := fun hl => by
        rcases List.mem_append.mp (hp.mem_iff.mp hl) with h | h
        · exact hgr h
        · have := congrArg List.length (List.mem_singleton.mp h)
          rw [List.length_drop] at this
          cases g with
          | nil => cases hg
          | cons x xs => rw [List.length_cons] at this; omega
      refine K.no okd (by rw [sortT_len, List.length_append, List.length_singleton]; omega) (.inr rfl) (rest_not K.ok K.mF hgF okd hgd) ?_
      walk_at "dl"
      rw [if_neg (by decide)]
      refine last ?_
      walk_at "dl"
      exact q
  · rw [if_neg h0]
    have hF0 : F = [] := List.length_eq_zero_iff.mp (by omega)
    subst hF0
    refine ⟨by omega, ?_⟩
    refine K.no (D := [[]]) (fun l hl => ?_) (by decide) (.inr rfl) (fun h => ?_) ?_
    · rw [List.mem_singleton.mp hl]; exact ⟨.nil, fun x hx => by cases hx⟩
    · have := (h (compl n [])).mp (by simp)
      cases this
    · walk_at "dl"
      exact q
theorem size_max {L : List (List Nat)} (ok : SetsOk 20 L) {m : Int} (h1 : m ∈ (0 : Int) :: lasts L) (h2 : ∀ y ∈ (0 : Int) :: lasts L, y ≤ m) : ∃ n : Nat, m = n ∧ n ≤ 20 ∧ SetsOk n L := by
  obtain ⟨n, hn, h20, ok'⟩ := size_ok ok
  refine ⟨n, ?_, h20, ok'⟩
  cases e : lasts L with
  | nil =>
    rw [e] at h1 hn
    rw [List.mem_singleton.mp h1]
    exact hn
  | cons z zs =>
    rw [e] at h1 h2 hn
    obtain ⟨q1, q2⟩ := maxOf_ge z zs
    have hz : sizeI (z :: zs) = PySem.W.maxOf z zs := rfl
    rw [hz] at hn
    have a1 := h2 _ (List.mem_cons_of_mem _ q2)
    have a2 : m ≤ n := by
      rcases List.mem_cons.mp h1 with h | h
      · omega
      · have := q1 m h; omega
    omega
theorem rk4_law (K : ∀ n, SetsOk n (leastOf sets) → n ≤ 20 → Lst sets F n) (ok20 : SetsOk 20 (leastOf sets)) (q : Q (.dat (.bool true))) (a2 b5 b6 b11 : Option S) :
    τ_lawK_r4 x { nx := fun _ => False, rt := Q } [a, some .tok, a2, some (.dat (.tuple (sets.map tup))), some (.dat (.tuple (F.map tup))), b5, b6, some (.dat (.tuple ((leastOf sets).map tup))), none, none, none, b11] := by
  have es := sl_eq
  have hL : (leastOf sets).length ≤ 30 := by have := leastOf_len sets; have := (K 20 ok20 (by omega)).len; omega
  unfold τ_lawK_r4
  walk_at "dl"
  refine ⟨by omega, ?_⟩
  refine lcL_fmA (fun s : List Nat => s.getLast?.map fun m => nI (m + 1)) (leastOf sets) [] (fun s hs' acc k ha hk => ?_) (by rw [List.length_nil]; omega) ?_
  · rcases List.eq_nil_or_concat s with rfl | ⟨l, b, rfl⟩
    · unfold tup
      walk_at "dl"
      exact ⟨sh_nilT, by simpa using hk⟩
    · rw [List.concat_eq_append] at hk ⊢
      rw [show tup (l ++ [b]) = PyData.tuple (l.map nI ++ [nI b]) by unfold tup; rw [List.map_append]; rfl]
      walk_at "dl"
      rw [atI_last]
      walk_at "dl"
      rw [show (l ++ [b]).getLast? = some b by simp] at hk
      rw [if_pos (by simp)]
      have sh := sh_tup (l ++ [b])
      unfold tup at sh
      rw [List.map_append] at sh
      exact ⟨sh, ha, hk⟩
  · rw [List.nil_append]
    have e : ((leastOf sets).filterMap fun s : List Nat => s.getLast?.map fun m => nI (m + 1)) = (lasts (leastOf sets)).map PyData.int := by
      unfold lasts
      rw [List.map_filterMap]
      congr 1
      funext s
      cases s.getLast? <;> rfl
    rw [e]
    have hll : (lasts (leastOf sets)).length ≤ 30 := Nat.le_trans (List.length_filterMap_le _ _) hL
    refine ⟨by rw [List.length_map]; omega, 0 :: lasts (leastOf sets), rfl, by simp, fun m h1 h2 => ?_⟩
    obtain ⟨n, rfl, hn, okn⟩ := size_max ok20 h1 h2
    have k := K n okn hn
    have hB : (sortT (F.map (compl n))).Perm (F.map (compl n)) := sortT_perm _
    refine ⟨n, F, ⟨hn, by have := k.hF; omega, fun h2 => apart_nil (rest_apart k.ok k.nF k.mF) (by rw [List.length_map]; exact h2)⟩, rfl, ?_⟩
    walk_at "dl"
    refine k.yes hB (.inr rfl) ?_
    walk_at "dl"
    rw [if_neg (by decide)]
    refine k.yes hB (.inr rfl) ?_
    walk_at "dl"
    rw [if_neg (by decide)]
    exact rk3_law k q _ _ _ _ hB
theorem rk6_law (S0 : Src sets many w) (f : Fnd sets F) (hl : F.length = w) (q : Q (.dat (.bool true))) :
    τ_lawK_r6 x { nx := fun _ => False, rt := Q } [a, some .tok, some (.dat (nI many)), some (.dat (.tuple (sets.map tup))), some (.dat (.tuple (F.map tup))), none, none, none, none, none, none, none] := by
  have es := sl_eq
  have hw := S0.le
  unfold τ_lawK_r6
  walk_at "dl"
  rw [List.length_map]
  refine ⟨by omega, ?_⟩
  rw [Int.toNat_natCast]
  refine forL_rng 0 F.length (fun _ ρ => ∃ b5 b6 b11 : Option S, ρ = [a, some .tok, some (.dat (nI many)), some (.dat (.tuple (sets.map tup))), some (.dat (.tuple (F.map tup))), b5, b6, none, none, none, none, b11])
    ⟨_, _, _, rfl⟩ (fun k hk ρ kk ⟨b5, b6, b11, e1⟩ hkk => ?_) fun ρ ⟨b5, b6, b11, e1⟩ => ?_
  · subst e1
    rw [Int.zero_add]
    walk_at "dl"
    rw [rows_at' hk, getD_mem hk]
    have hmin := (f.mem _).mp (List.getElem_mem hk)
    have hlen : (F[k]).length ≤ 20 := up_len hmin.1 (minHit_lt S0.ok hmin)
    have r5 := rk5_law (x := x) (a := a) { nx := kk, rt := Q, ct := kk, bk := fun ρ => (τSeq (τAsg (τCB bTuple (τCons (τCall sp46__law_least_of (τCons (τVar 3) τNil)) τNil)) (γName 7)) (τSeq (τIfS (τNot (τTru (τCall (sp_sameB 2) (τCons (τCall spX_least_hitting (τCons (τVar 4) τNil)) (τCons (τVar 7) τNil))))) (τRet (τC (PyData.bool false))) τNext) τ_lawK_r4) x { nx := fun x => False, rt := Q }) ρ } S0 f hl k hk none none none none
    rw [show tup F[k] = PyData.tuple ((F[k]).map nI) from rfl] at *
    walk_at "dl"
    refine lcL_filtA (fun _ => false) nI (fun o ho acc k' ha' hk1 hk2 => ?_) (by omega) ?_
    · walk_at "dl"
      exact hk2 rfl
    · rw [show (F[k]).filter (fun _ => false) = [] from List.filter_eq_nil_iff.mpr fun _ _ => by simp]
      rw [List.map_nil]
      walk_at "dl"
      refine r5 _ ?_
      exact hkk _ ⟨_, _, _, rfl⟩
  · subst e1
    have hLl := leastOf_len sets
    have hS := S0.len
    have up20 : ∀ l ∈ sets, l.length ≤ 20 := fun l hl => up_len (S0.ok.up l hl) (S0.ok.lt l hl)
    have hsh : Short sets := ⟨by omega, fun l hl => by have := up20 l hl; omega⟩
    have okl : ∀ n, SetsOk n sets → SetsOk n (leastOf sets) := fun n h => setsOk_iff.mpr fun l hl => setsOk_iff.mp h l (mem_leastOf.mp hl).1
    have ok20 := okl 20 S0.ok
    have upF : ∀ l ∈ F, RowIn 20 l := fun l hl' => ⟨((f.mem l).mp hl').1, minHit_lt S0.ok ((f.mem l).mp hl')⟩
    walk_at "dl"
    refine ⟨_, sets, hsh, rfl, .inr rfl, ?_⟩
    walk_at "dl"
    refine ⟨_, F, ⟨setsOk_iff.mpr upF, by omega⟩, rfl, .inr rfl, fun L h1 h2 => ?_⟩
    have h3 : ∀ l, l ∈ L ↔ l ∈ leastOf sets := fun l => (h2 l).trans (dual S0.ok f.mem l)
    have hp : (leastOf sets).Perm L := (List.perm_ext_iff_of_nodup (leastOf_apart sets).1 h1).mpr fun l => (h3 l).symm
    refine ⟨fun _ => ?_, fun h => ?_⟩
    · rw [sortD_is hp (leastOf_sorted sets)]
      walk_at "dl"
      refine ⟨PyData.tuple ((leastOf sets).map tup), ?_, rfl, ?_⟩
      · have := plainB_tups (L := L) (by rw [← hp.length_eq]; omega) (fun l hl' => by have := up20 l (mem_leastOf.mp ((h3 l).mp hl')).1; omega)
        rw [sortD_is hp (leastOf_sorted sets)] at this
        exact this
      walk_at "dl"
      exact rk4_law (fun n okn hn => ⟨hn, okn, S0.len, f.nd, by omega, fun l => by rw [f.mem, minHit_least S0.ok]⟩) ok20 q _ _ _ _
    · have := hp.length_eq
      omega
theorem rk7_law (S0 : Src sets many w) (q : Q (.dat (.bool true))) :
    τ_lawK_r7 x { nx := fun _ => False, rt := Q } [a, some .tok, some (.dat (nI many)), some (.dat (.tuple (sets.map tup))), none, none, none, none, none, none, none, none] := by
  have es := sl_eq
  unfold τ_lawK_r7
  walk_at "dl"
  refine lh46 (.inr rfl) S0.ok (by have := S0.len; omega) S0.cnt (by have := S0.le; omega) fun F f hF => ?_
  walk_at "dl"
  have k6 := rk6_law (x := x) (a := a) S0 f hF q
  by_cases h0 : (0 : Int) < (many : Int)
  · rw [if_pos h0]
    have hm : many = w := by rcases S0.many with h | h <;> omega
    rw [if_neg (by rw [List.length_map, hF, hm]; simp)]
    exact k6
  · rw [if_neg h0]
    exact k6
theorem sem_lawK (x : Xn) (Q : S → Prop) (q : Q (.dat (.bool true))) (a : Option S) :
    τ_lawK x { nx := fun _ => False, rt := Q } [a, some .tok, none, none, none, none, none, none, none, none, none, none] := by
  have es := sl_eq
  unfold τ_lawK
  walk_at "dl"
  refine ⟨2, by decide, rfl, fun r hr => ?_⟩
  walk_at "dl"
  by_cases h0 : (r : Int) = 0
  · rw [if_pos h0]
    refine ⟨rfl, fun sets w M => ?_⟩
    walk_at "dl"
    refine rk7_law (w := w) (many := w) ⟨M.ok, M.len, M.cnt, by have := M.le; omega, .inr rfl⟩ q
  · rw [if_neg h0]
    refine ⟨by unfold RgOk; omega, _, rgD 0 20, by rw [rg_nI, List.length_map, List.length_range]; omega, rfl, .inl rfl, fun es hp => ?_⟩
    rw [rg_nI] at hp
    obtain ⟨lf, rfl, hlf⟩ := perm_nI hp
    refine ⟨8, by decide, rfl, fun j hj => ?_⟩
    walk_at "dl"
    rw [show (1 : Int) + (j : Int) = ((1 + j : Nat) : Int) by omega, cut_take, ← List.map_take]
    refine bSorted_nI (l := lf.take (1 + j)) rfl ?_
    walk_at "dl"
    have ndl : lf.Nodup := hlf.nodup_iff.mpr List.nodup_range
    have hll : lf.length = 20 := by rw [hlf.length_eq, List.length_range]
    have hln : (sortN (lf.take (1 + j))).length = 1 + j := by rw [(sortN_perm _).length_eq, List.length_take]; omega
    have hup : (sortN (lf.take (1 + j))).Pairwise (· < ·) := sortN_up (ndl.sublist (List.take_sublist _ _))
    have hlt : ∀ y ∈ sortN (lf.take (1 + j)), y < 20 := fun y hy => List.mem_range.mp (hlf.mem_iff.mp (List.mem_of_mem_take ((sortN_perm _).mem_iff.mp hy)))
    generalize sortN (lf.take (1 + j)) = ns at *
    refine ⟨ns, ⟨by omega, fun h => by rw [h, List.length_nil] at hln; omega, hup⟩, rfl, fun sets h9 hs => ?_⟩
    walk_at "dl"
    have nds : (subs ns).Nodup := subs_nodup (up_nodup hup)
    have hlen : ((subs ns).filter (minB sets)).length ≤ 256 := Nat.le_trans (List.length_filter_le _ _) (by rw [(subs_facts ns).1]; exact Nat.le_trans (Nat.pow_le_pow_right (n := 2) (by omega) (by omega : ns.length ≤ 8)) (by decide))
    exact rk7_law (many := 0) (w := ((subs ns).filter (minB sets)).length) ⟨setsOk_iff.mpr fun l hl => ⟨(hs l hl).1, fun y hy => hlt y ((hs l hl).2 y hy)⟩, by omega, ⟨_, nds.filter _, rfl, fun l => (subs_min hup (fun s h => (hs s h).2) l).symm⟩, hlen, .inl rfl⟩ q
end
end Law

set_option Elab.async false
set_option linter.all false
set_option maxRecDepth 100000
set_option maxHeartbeats 4000000
namespace Law
open PySem PySem.Spec PyProof.Rows L2 DL

def topS (i : Nat) : Stmt := PySem.Challenge.pw_bagreach_k46_hitting_there_and_back.main.body.getD i (.Pass ⟨0, 0, 0, 0⟩)
abbrev s__mask : Stmt := topS 5
abbrev s__numbers : Stmt := topS 6
abbrev s__families_without : Stmt := topS 7
abbrev s__one_more : Stmt := topS 8
abbrev s__holding : Stmt := topS 9
abbrev s__within : Stmt := topS 10
abbrev s__members : Stmt := topS 11
abbrev s_least_hitting : Stmt := topS 12
abbrev s__are_apart : Stmt := topS 13
abbrev s_are_lists : Stmt := topS 14
abbrev s__law_flow : Stmt := topS 16
abbrev s__law_draw : Stmt := topS 17
abbrev s__law_pick : Stmt := topS 18
abbrev s__law_mixed : Stmt := topS 19
abbrev s__law_same : Stmt := topS 20
abbrev s__law_subsets : Stmt := topS 21
abbrev s__law_least_of : Stmt := topS 22
abbrev s__law_hits : Stmt := topS 23
abbrev s__law_drawn_sets : Stmt := topS 24
abbrev s__law_is_least : Stmt := topS 25
abbrev s__law_lot_of_rows : Stmt := topS 26
abbrev s__law_many_rows : Stmt := topS 27
abbrev s__law_rest : Stmt := topS 28
abbrev s_law : Stmt := topS 29
theorem sc__law_draw : FnScope ["flow", "many", "digit", "cell", "first", "second"] ["flow", "many"] (defScope s__law_draw) := ⟨rfl, rfl, rfl, by decide +kernel, rfl, by decide +kernel, by decide +kernel⟩
theorem sc__law_mixed : FnScope ["flow", "some", "left", "k"] ["flow", "some"] (defScope s__law_mixed) := ⟨rfl, rfl, rfl, by decide +kernel, rfl, by decide +kernel, by decide +kernel⟩
theorem sc__law_flow : FnScope ["script", "cells", "great", "cell"] ["script"] (defScope s__law_flow) := ⟨rfl, rfl, rfl, by decide +kernel, rfl, by decide +kernel, by decide +kernel⟩
/-! ### the draws (first form) -/
section
variable {P : Program} {w : World} {K : PySem.W.Frag} {mg : Str → Option Value} {base : Heap}
/-- a draw: some number below many; the flow's own lists alone change -/
def spDrawH : Sp := fun vs H Q _ => ∃ (fl g c : Addr) (many : Int), vs = [.ref fl, .int many] ∧ FlowOk fl g c H ∧ 0 < many ∧ many < 1073741824 ∧
  ∀ r H', 0 ≤ r → r < many → FlowOk fl g c H' → (∀ b, b ≠ fl → b ≠ g → H' b = H b) → Q (.int r) H'
structure FL (fl g c : Addr) (H0 H : Hp) (a0 a1 : Int) (gs : List Int) (a3 : Int) (cs : List Int) : Prop where
  hl : H fl = some (.lst [.int a0, .int a1, .ref g, .int a3, .ref c])
  hg : H g = some (.lst (gs.map V.int))
  hc : H c = some (.lst (cs.map V.int))
  hk : ∀ b, b ≠ fl → b ≠ g → H b = H0 b
section
variable {fl g c : Addr} {H0 H : Hp} {a0 a1 a3 : Int} {gs cs : List Int}
theorem FL.upd (h : FL fl g c H0 H a0 a1 gs a3 cs) (n1 : fl ≠ g) (n2 : fl ≠ c) (b0 b1 b3 : Int) : FL fl g c H0 (L2.upd H fl (.lst [.int b0, .int b1, .ref g, .int b3, .ref c])) b0 b1 gs b3 cs :=
  ⟨upd_same, by rw [upd_ne n1.symm]; exact h.hg, by rw [upd_ne n2.symm]; exact h.hc, fun b h1 h2 => by rw [upd_ne h1]; exact h.hk b h1 h2⟩
theorem FL.pop (h : FL fl g c H0 H a0 a1 gs a3 cs) (n1 : fl ≠ g) (n3 : g ≠ c) : FL fl g c H0 (L2.upd H g (.lst (gs.map V.int).dropLast)) a0 a1 gs.dropLast a3 cs :=
  ⟨by rw [upd_ne n1]; exact h.hl, by rw [upd_same, List.map_dropLast], by rw [upd_ne n3.symm]; exact h.hc, fun b h1 h2 => by rw [upd_ne h2]; exact h.hk b h1 h2⟩
theorem FL.ok (h : FL fl g c H0 H a0 a1 gs a3 cs) (h0 : cs ≠ []) (n1 : fl ≠ g) (n2 : fl ≠ c) (n3 : g ≠ c) : FlowOk fl g c H := ⟨a0, a1, a3, gs, cs, h0, h.hl, h.hg, h.hc, n1, n2, n3⟩
end
theorem rd {K : PySem.W.Frag} {H1 : Hp} {a : Addr} {xs : List V} {i : Int} {v : V} {Q : VK} (h : H1 a = some (.lst xs)) (e : atI xs i = some v) (q : Q v H1) : rIxL K (.ref a) (.int i) H1 Q := ⟨_, _, _, _, rfl, rfl, SqL.of h, e, q⟩
theorem wr {H1 : Hp} {a : Addr} {xs : List V} {i : Int} {j : Nat} {v : V} {Q : Hp → Prop} (h : H1 a = some (.lst xs)) (e : ixN xs.length i = some j) (q : Q (upd H1 a (.lst (xs.set j v)))) : rSetL (.ref a) (.int i) v H1 Q := ⟨_, _, _, _, rfl, rfl, h, e, q⟩
theorem rEq_int {i j : Int} {H : Hp} {Q : VK} : L2.rEq (.int i) (.int j) H Q ↔ Q (.bl (decide (i = j))) H := by
  unfold L2.rEq
  rw [show L2.scal (.int i) (.int j) = true from rfl]
  simp
section
variable {fl g c : Addr} {H0 H : Hp} {a0 a1 a3 : Int} {gs cs : List Int} {Q : Hp → Prop} {v : Int}
theorem wr0 (h : FL fl g c H0 H a0 a1 gs a3 cs) (n1 : fl ≠ g) (n2 : fl ≠ c) (q : ∀ H1, FL fl g c H0 H1 v a1 gs a3 cs → Q H1) : rSetL (.ref fl) (.int 0) (.int v) H Q := wr (j := 0) h.hl rfl (q _ (h.upd n1 n2 v a1 a3))
theorem wr1 (h : FL fl g c H0 H a0 a1 gs a3 cs) (n1 : fl ≠ g) (n2 : fl ≠ c) (q : ∀ H1, FL fl g c H0 H1 a0 v gs a3 cs → Q H1) : rSetL (.ref fl) (.int 1) (.int v) H Q := wr (j := 1) h.hl rfl (q _ (h.upd n1 n2 a0 v a3))
theorem wr3 (h : FL fl g c H0 H a0 a1 gs a3 cs) (n1 : fl ≠ g) (n2 : fl ≠ c) (q : ∀ H1, FL fl g c H0 H1 a0 a1 gs v cs → Q H1) : rSetL (.ref fl) (.int 3) (.int v) H Q := wr (j := 3) h.hl rfl (q _ (h.upd n1 n2 a0 a1 v))
end
local macro_rules | `(tactic| walk_at "hs") => `(tactic| simp only [L2.start, L2.tSeq, L2.tAsg, L2.tOp, L2.tVar, L2.tC, L2.gSub, L2.gName, L2.tIfS, L2.tAnd, L2.tTest, L2.tBM0, L2.tCB, L2.tCons, L2.tNil, L2.tNext, L2.tRet, L2.rI0, L2.rI, rEq_int, List.map_cons, List.map_nil, List.length_cons, List.length_nil, Nat.reduceAdd, Nat.reduceSub, List.replicate, List.cons_append, List.nil_append, List.getElem?_cons_zero, List.getElem?_cons_succ, Option.some.injEq, exists_eq_left', exists_eq_left, V.int.injEq, List.set_cons_zero, List.set_cons_succ, reduceIte, exists_and_left, true_and, L2.dec_int, V.bl.injEq, List.cons.injEq, and_true, reduceCtorEq, false_and, exists_false, or_false, false_or])
theorem ok_drawH {f : Addr} {fd : FuncData} (F : Fun K "_law_draw" "_law_draw" s__law_draw f fd) (ml : mg "len" = none) (mi : mg "int" = none) : FnOk P w K mg base (L2.CX P w) 1 f fd ["flow", "many"] spDrawH := by
  refine F.okX sc__law_draw (fun vs H Q E h => ?_) (fun cdv A outer s H vs Q E hr h => ?_)
  · obtain ⟨_, _, _, _, rfl, _⟩ := h
    rfl
  obtain ⟨fl, g, c, many, rfl, hF, m0, m1, k⟩ := h
  obtain ⟨a0, a1, a3, gs, cs, hcs, h1, h2, h3, n1, n2, n3⟩ := hF
  have hlen : 0 < (cs.map V.int).length := by
    rw [List.length_map]
    cases cs with
    | nil => exact absurd rfl hcs
    | cons x xs => exact Nat.succ_pos _
  have f0 : FL fl g c H H a0 a1 gs a3 cs := ⟨h1, h2, h3, fun _ _ _ => rfl⟩
  have fin : ∀ {H' : Hp} {b0 b1 b3 : Int} {ks : List Int} (r : Int), FL fl g c H H' b0 b1 ks b3 cs → 0 ≤ r → r < many → Q (.int r) H' := fun r f1 q1 q2 => k r _ q1 q2 (f1.ok hcs n1 n2 n3) f1.hk
  clear h1 h2 h3 k
  refine ⟨_, (pss_cons (ps_asg (pe_op op_add (pe_ix ix_list (pv 0) pe_int (fun _ _ => rfl)) pe_int) (pg_sub (pv 0) pe_int set_list))
      (pss_cons (ps_if (PW.pt (pw_and (pt_cmpR op_eq (pe_ix ix_list (pv 0) pe_int (fun _ _ => rfl)) pe_int (nomark _)) (pw_and1 (pt_cmpR op_gt (pe_callB call_len_seq (by rfl) ml PySem.boot_len (pa_cons (pe_ix ix_list (pv 0) pe_int (fun _ _ => rfl)) pa_nil)) pe_int (nomark _)))))
      (pss_cons (ps_asg (pe_bm0 PySem.F.plainAttrs_list PySem.F.slot_list_pop PySem.F.type_list_pop mt_pop (pe_ix ix_list (pv 0) pe_int (fun _ _ => rfl))) (pg_sub (pv 0) pe_int set_list))
      (pss_one (ps_asg pe_int (pg_sub (pv 0) pe_int set_list))))
      pss_nil)
      (pss_cons (ps_if (pt_cmpR op_gt (pe_ix ix_list (pv 0) pe_int (fun _ _ => rfl)) pe_int (nomark _))
      (pss_cons (ps_set (i := 2) sc__law_draw.nd rfl (by first | exact Or.inl rfl | exact Or.inr rfl) (pe_op op_mod (pe_callTy call_int1 (by rfl) mi PyProof.Rows.boot_int (pa_cons (pe_ix ix_list (pv 0) pe_int (fun _ _ => rfl)) pa_nil)) (pv 1)))
      (pss_cons (ps_asg (pe_op op_fdiv (pe_ix ix_list (pv 0) pe_int (fun _ _ => rfl)) (pv 1)) (pg_sub (pv 0) pe_int set_list))
      (pss_cons (ps_asg (pe_op op_mul (pe_op op_sub (pe_ix ix_list (pv 0) pe_int (fun _ _ => rfl)) pe_int) (pe_callTy call_int1 (by rfl) mi PyProof.Rows.boot_int (pa_cons (pe_cmpR op_gt (pe_ix ix_list (pv 0) pe_int (fun _ _ => rfl)) pe_int (nomark _)) pa_nil))) (pg_sub (pv 0) pe_int set_list))
      (pss_one (ps_ret (pv 2))))))
      pss_nil)
      (pss_cons (ps_set (i := 3) sc__law_draw.nd rfl (by first | exact Or.inl rfl | exact Or.inr rfl) (pe_ix ix_list (pe_ix ix_list (pv 0) pe_int (fun _ _ => rfl)) (pe_op op_mod (pe_callTy call_int1 (by rfl) mi PyProof.Rows.boot_int (pa_cons (pe_ix ix_list (pv 0) pe_int (fun _ _ => rfl)) pa_nil)) (pe_callB call_len_seq (by rfl) ml PySem.boot_len (pa_cons (pe_ix ix_list (pv 0) pe_int (fun _ _ => rfl)) pa_nil))) (fun _ _ => rfl)))
      (pss_cons (ps_set (i := 4) sc__law_draw.nd rfl (by first | exact Or.inl rfl | exact Or.inr rfl) (pe_op op_mod (pe_callTy call_int1 (by rfl) mi PyProof.Rows.boot_int (pa_cons (pe_op op_add (pe_op op_add (pe_op op_mul (pv 3) pe_int) (pe_op op_mul (pe_ix ix_list (pv 0) pe_int (fun _ _ => rfl)) pe_int)) pe_int) pa_nil)) pe_int))
      (pss_cons (ps_set (i := 5) sc__law_draw.nd rfl (by first | exact Or.inl rfl | exact Or.inr rfl) (pe_op op_mod (pe_callTy call_int1 (by rfl) mi PyProof.Rows.boot_int (pa_cons (pe_op op_add (pe_op op_mul (pv 4) (pv 4)) (pe_op op_mul (pe_ix ix_list (pv 0) pe_int (fun _ _ => rfl)) pe_int)) pa_nil)) pe_int))
      (pss_one (ps_ret (pe_op op_mod (pe_callTy call_int1 (by rfl) mi PyProof.Rows.boot_int (pa_cons (pe_op op_fdiv (pe_op op_mod (pe_callTy call_int1 (by rfl) mi PyProof.Rows.boot_int (pa_cons (pe_op op_add (pe_op op_mul (pv 5) (pv 5)) (pv 4)) pa_nil)) pe_int) pe_int) pa_nil)) (pv 1)))))))))), ?_⟩
  walk_at "hs"
  refine rd f0.hl rfl ⟨_, rfl, wr3 f0 n1 n2 fun H1 f1 => ?_⟩
  clear f0
  generalize a3 + 1 = b3 at f1
  refine rd f1.hl rfl ?_
  walk_at "hs"
  have hpos : ∀ {ks : List Int}, (0 : Int) < (ks.map V.int).length → ∃ y, (ks.map V.int)[(ks.map V.int).length - 1]? = some (.int y) := fun {ks} hk => by
    rw [List.length_map] at hk ⊢
    have hl : ks.length - 1 < ks.length := by omega
    exact ⟨ks[ks.length - 1], by rw [List.getElem?_map, List.getElem?_eq_getElem hl]; rfl⟩
  have hlen' : (0 : Int) < ((cs.map V.int).length : Nat) := by omega
  have at_cell : ∀ x : Int, ∃ v, atI (cs.map V.int) (x % ((cs.map V.int).length : Nat)) = some (.int v) := fun x => by
    have q1 := Int.emod_nonneg x (show ((cs.map V.int).length : Int) ≠ 0 by omega)
    have q2 := Int.emod_lt_of_pos x hlen'
    obtain ⟨n, hn⟩ := Int.eq_ofNat_of_zero_le q1
    rw [hn] at q2 ⊢
    have q3 : n < cs.length := by rw [List.length_map] at q2; omega
    exact ⟨cs[n], by rw [DL.atI_nat, List.getElem?_map, List.getElem?_eq_getElem q3]; rfl⟩
  have small : ∀ {i : Int} (b : Bool), CMul i (if b = true then 1 else 0) := fun b => .inr (by cases b <;> decide)
  split
  · refine rd f1.hl rfl ⟨_, rfl, _, .inl (SqL.of f1.hg), ?_⟩
    split
    · rename_i hk
      obtain ⟨y, hy⟩ := hpos (of_decide_eq_true hk)
      refine rd f1.hl rfl ⟨.inl ⟨rfl, _, SqL.of f1.hg⟩, _, _, _, rfl, rfl, f1.hg, hy, wr0 (f1.pop n1 n3) n1 n2 fun H3 f3 => wr1 f3 n1 n2 fun H4 f2 => ?_⟩
      clear f1 f3 hy hk
      refine rd f2.hl rfl ⟨_, rfl, ?_⟩
      rw [if_pos (by decide)]
      refine rd f2.hl rfl (.inl ⟨_, rfl, m0, rd f2.hl rfl ⟨_, rfl, ⟨m0, m1⟩, wr0 f2 n1 n2 fun H3 f3 => rd f3.hl rfl ⟨_, rfl, rd f3.hl rfl ⟨_, rfl, small _, wr1 f3 n1 n2 fun H4 f4 => ?_⟩⟩⟩⟩)
      exact fin _ f4 (Int.emod_nonneg _ (by omega)) (Int.emod_lt_of_pos _ m0)
    · have f2 := f1
      clear f1
      refine rd f2.hl rfl ⟨_, rfl, ?_⟩
      split
      · refine rd f2.hl rfl (.inl ⟨_, rfl, m0, rd f2.hl rfl ⟨_, rfl, ⟨m0, m1⟩, wr0 f2 n1 n2 fun H3 f3 => rd f3.hl rfl ⟨_, rfl, rd f3.hl rfl ⟨_, rfl, small _, wr1 f3 n1 n2 fun H4 f4 => ?_⟩⟩⟩⟩)
        exact fin _ f4 (Int.emod_nonneg _ (by omega)) (Int.emod_lt_of_pos _ m0)
      · refine rd f2.hl rfl (rd f2.hl rfl (.inl ⟨_, rfl, rd f2.hl rfl ⟨_, rfl, _, .inl (SqL.of f2.hc), hlen', ?_⟩⟩))
        obtain ⟨v, hv⟩ := at_cell b3
        refine rd f2.hc hv ⟨_, rfl, .inr (by omega), rd f2.hl rfl ⟨_, rfl, .inr (by omega), by omega, .inl (by omega), rd f2.hl rfl ⟨_, rfl, .inr (by omega), by omega, .inl (by omega), by omega, ⟨by omega, by omega⟩, m0, ?_⟩⟩⟩
        exact fin _ f2 (Int.emod_nonneg _ (by omega)) (Int.emod_lt_of_pos _ m0)
  · have f2 := f1
    clear f1
    refine rd f2.hl rfl ⟨_, rfl, ?_⟩
    split
    · refine rd f2.hl rfl (.inl ⟨_, rfl, m0, rd f2.hl rfl ⟨_, rfl, ⟨m0, m1⟩, wr0 f2 n1 n2 fun H3 f3 => rd f3.hl rfl ⟨_, rfl, rd f3.hl rfl ⟨_, rfl, small _, wr1 f3 n1 n2 fun H4 f4 => ?_⟩⟩⟩⟩)
      exact fin _ f4 (Int.emod_nonneg _ (by omega)) (Int.emod_lt_of_pos _ m0)
    · refine rd f2.hl rfl (rd f2.hl rfl (.inl ⟨_, rfl, rd f2.hl rfl ⟨_, rfl, _, .inl (SqL.of f2.hc), hlen', ?_⟩⟩))
      obtain ⟨v, hv⟩ := at_cell b3
      refine rd f2.hc hv ⟨_, rfl, .inr (by omega), rd f2.hl rfl ⟨_, rfl, .inr (by omega), by omega, .inl (by omega), rd f2.hl rfl ⟨_, rfl, .inr (by omega), by omega, .inl (by omega), by omega, ⟨by omega, by omega⟩, m0, ?_⟩⟩⟩
      exact fin _ f2 (Int.emod_nonneg _ (by omega)) (Int.emod_lt_of_pos _ m0)
end

/-! ### mixed -/
section
variable {P : Program} {w : World} {K : PySem.W.Frag} {mg : Str → Option Value} {base : Heap}
theorem erase_perm {α : Type} {l : List α} {j : Nat} (h : j < l.length) : (l[j] :: l.eraseIdx j).Perm l := by
  rw [List.eraseIdx_eq_take_drop_succ]
  refine List.perm_middle.symm.trans ?_
  rw [List.getElem_cons_drop, List.take_append_drop]
theorem pe_lenK {K : PySem.W.Frag} {X : Cx} {e : Expr} {ta : TA} {p pos : Pos} (hg : Gl X "len") (hm : X.mg "len" = none) (ha : PA X [e] ta) (hK : X.K = K := by rfl) (he : starEach [e] X.env = (false, eval e X.env) :: starEach [] X.env := by rfl) (hpl : (backTo pos (starEach [] X.env)).any (·.1) = false := by rfl) :
    PE X (.Call (.Name "len" p) [e] [] pos) (tCB (DL.rLen K) ta) := by
  subst hK
  exact pe_callB DL.cr_len hg hm PySem.boot_len ha (by decide) (by decide) he hpl
theorem pe_popK {K : PySem.W.Frag} {X : Cx} {o e : Expr} {to : TE} {ta : TA} {apos cpos : Pos} (ho : PE X o to) (ha : PA X [e] ta) (hK : X.K = K := by rfl) (hbase : attributeBase o "pop" X.env (eval o X.env) = eval o X.env := by rfl)
    (hfew : ((backTo cpos (starEach [e] X.env)).all (fun x => !x.1) && (backToKw cpos (keywordEach [] X.env)).all (fun x => x.1.isSome) && decide ([e].length + ([] : List Keyword).length + (if ([] : List Keyword).isEmpty then 0 else 1) < 30)) = true := by rfl)
    (hline : (apos.endLine == cpos.line) = true := by rfl) (hs : starEach [e] X.env = (false, eval e X.env) :: starEach [] X.env := by rfl) (hplain : (backTo cpos (starEach [] X.env)).any (·.1) = false := by rfl) :
    PE X (.Call (.Attribute o "pop" apos) [e] [] cpos) (tBM K "list" rPopAt to ta) := by
  subst hK
  exact pe_bm PySem.F.plainAttrs_list PySem.F.slot_list_pop PySem.F.type_list_pop mt_popAt ho ha hbase hfew hline hs hplain
def spMixH (K : PySem.W.Frag) : Sp := fun vs H Q _ => ∃ (fl g c a : Addr) (xs : List V), vs = [.ref fl, .ref a] ∧ FlowOk fl g c H ∧ (SqL K H a xs ∨ SqT K H a xs) ∧ xs.length < 1048576 ∧
  ∀ ys p H', ys.Perm xs → H p = none → H' p = some (.lst ys) → FlowOk fl g c H' → (∀ b, b ≠ fl → b ≠ g → H b ≠ none → H' b = H b) → Q (.ref p) H'
theorem ok_mixH {f f__law_draw : Addr} {fd fd__law_draw : FuncData} (F : Fun K "_law_mixed" "_law_mixed" s__law_mixed f fd) (m_len : mg "len" = none) (m_list : mg "list" = none) (m_range : mg "range" = none)
    (m__law_draw : mg "_law_draw" = some (.ref f__law_draw)) (k__law_draw : PySem.W.keepIn K (.ref f__law_draw) = true) (b__law_draw : Binds K fd__law_draw ["flow", "many"] []) (G__law_draw : FnOk P w K mg base (L2.CX P w) 1 f__law_draw fd__law_draw ["flow", "many"] spDrawH) : FnOk P w K mg base (L2.CX P w) 2 f fd ["flow", "some"] (spMixH K) := by
  refine F.okX sc__law_mixed (fun vs H Q E h => ?_) (fun cdv A outer s H vs Q E hr h => ?_)
  · obtain ⟨_, _, _, _, _, rfl, _⟩ := h
    rfl
  obtain ⟨fl, g, c, a, xs, rfl, hF, hS, hlen, k⟩ := h
  refine ⟨_, (pss_cons (ps_set (i := 2) sc__law_mixed.nd rfl (by first | exact Or.inl rfl | exact Or.inr rfl) (pe_callTy call_list_of (by rfl) m_list PyProof.Rows.boot_list (pa_cons (pv 1) pa_nil)))
      (pss_one (ps_ret (pe_lc (own := [("k", 3)]) (g := gName 3) rfl sc__law_mixed.nd (pi_range1 (by rfl) m_range (pa_cons (pe_lenK (by rfl) m_len (pa_cons (pv 1) pa_nil)) pa_nil)) (blkOk_by (by kernel_rfl)) (fun _ _ _ _ _ => (pg_name (i := 3) sc__law_mixed.nd rfl (by first | exact Or.inl rfl | exact Or.inr rfl))) (fun _ _ _ _ _ => pts_nil) (fun _ _ _ _ _ => (pe_popK (pv 2) (pa_cons (pe_call G__law_draw (hr.mono (by decide)) (by rfl) m__law_draw k__law_draw b__law_draw .nil passL (pa_cons (pv 0) (pa_cons (pe_lenK (by rfl) m_len (pa_cons (pv 2) pa_nil)) pa_nil))) pa_nil))))))), ?_⟩
  have es : sizeLine = 16777216 := by decide +kernel
  obtain ⟨nfl, ng, nc⟩ := hF.there
  have n12 : fl ≠ g ∧ fl ≠ c ∧ g ≠ c := by
    obtain ⟨_, _, _, _, _, _, _, _, _, h⟩ := hF
    exact h
  refine ⟨.ref a, rfl, a, xs, rfl, hS, fun l hl => ?_⟩
  have keep : ∀ b, b ≠ l → upd H l (.lst xs) b = H b := fun b hb => upd_ne hb
  have grow : ∀ b u, H b = some u → upd H l (.lst xs) b = some u := fun b u e => by rw [upd_ne (ne_of_none e hl)]; exact e
  have hS1 : SqL K (upd H l (.lst xs)) a xs ∨ SqT K (upd H l (.lst xs)) a xs := hS.imp (fun h => DL.sqL_mono grow h) fun h => DL.sqT_mono grow h
  refine ⟨.ref a, rfl, .inl ⟨a, xs, rfl, hS1, ⟨(xs.length : Nat), rfl, by omega, by omega, fun D hD => ?_⟩⟩⟩
  have nDl : D ≠ l := fun e => by rw [e, upd_same] at hD; cases hD
  have nD : H D = none := by rw [keep D nDl] at hD; exact hD
  have old : ∀ b, H b ≠ none → b ≠ l ∧ b ≠ D := fun b hb => ⟨fun e => hb (e ▸ hl), fun e => hb (e ▸ nD)⟩
  refine ⟨fun i m H' => ∃ done rest, H' D = some (.lst done) ∧ H' l = some (.lst rest) ∧ (done ++ rest).Perm xs ∧ rest.length + i = xs.length ∧ m = rest.length ∧ FlowOk fl g c H' ∧ ∀ b, b ≠ fl → b ≠ g → H b ≠ none → H' b = H b,
    ⟨xs.length, [], xs, upd_same, by rw [upd_ne nDl.symm]; exact upd_same, .refl _, rfl, rfl, hF.loc ?_ ?_ ?_, fun b _ _ hb => ?_⟩, fun i m H' h => ?_⟩
  · rw [upd_ne (old _ nfl).2, upd_ne (old _ nfl).1]
  · rw [upd_ne (old _ ng).2, upd_ne (old _ ng).1]
  · rw [upd_ne (old _ nc).2, upd_ne (old _ nc).1]
  · rw [upd_ne (old _ hb).2, upd_ne (old _ hb).1]
  obtain ⟨done, rest, hd, hr', hp, hlen2, hm, hF', hfr⟩ := h
  by_cases hi : i < xs.length
  · refine .inr ⟨by show i < (xs.length : Int).toNat; omega, fun H' => ∃ m', m' < m ∧ ∃ done rest, H' D = some (.lst done) ∧ H' l = some (.lst rest) ∧ (done ++ rest).Perm xs ∧ rest.length + (i + 1) = xs.length ∧ m' = rest.length ∧ FlowOk fl g c H' ∧ ∀ b, b ≠ fl → b ≠ g → H b ≠ none → H' b = H b, fun _ h => h, fun x H2 hy => ?_⟩
    obtain ⟨rfl, rfl⟩ := hy
    refine ⟨rfl, ?_⟩
    simp only [L2.tYes, reduceIte]
    refine ⟨.ref l, rfl, .inl ⟨rfl, _, SqL.of hr'⟩, .ref fl, rfl, .ref l, rfl, .inl ⟨l, rest, rfl, .inl (SqL.of hr'), fl, g, c, (rest.length : Nat), rfl, hF', by omega, by omega, fun r H3 r0 r1 hF3 fr => ?_⟩⟩
    have nlf : l ≠ fl := (old fl nfl).1.symm
    have nlg : l ≠ g := (old g ng).1.symm
    have nlc : l ≠ c := (old c nc).1.symm
    obtain ⟨j, rfl⟩ := Int.eq_ofNat_of_zero_le r0
    have hj : j < rest.length := by omega
    have hix : ixN rest.length (j : Int) = some j := by
      unfold ixN
      rw [if_pos (by omega), if_pos (by omega), Int.toNat_natCast]
    have hl3 : H3 l = some (.lst rest) := (fr l nlf nlg).trans hr'
    refine ⟨l, rest, j, j, rest[j], rfl, rfl, hl3, by omega, by omega, (ixN_seq hix).1, List.getElem?_eq_getElem hj, done, ?_, ?_, ?_⟩
    · rw [upd_ne nDl, fr D (old fl nfl).2.symm (old g ng).2.symm]
      exact hd
    · have := hp.length_eq
      rw [List.length_append] at this
      omega
    · refine ⟨(rest.eraseIdx j).length, by rw [List.length_eraseIdx_of_lt hj]; omega, done ++ [rest[j]], rest.eraseIdx j, upd_same, by rw [upd_ne nDl.symm]; exact upd_same, ?_, by rw [List.length_eraseIdx_of_lt hj]; omega, rfl, hF3.loc ?_ ?_ ?_, fun b h1 h2 hb => ?_⟩
      · refine List.Perm.trans ?_ hp
        rw [List.append_assoc]
        exact (erase_perm hj).append_left done
      · rw [upd_ne (old _ nfl).2, upd_ne (old _ nfl).1]
      · rw [upd_ne (old _ ng).2, upd_ne (old _ ng).1]
      · rw [upd_ne (old _ nc).2, upd_ne (old _ nc).1]
      · rw [upd_ne (old _ hb).2, upd_ne (old _ hb).1, fr b h1 h2]
        exact hfr b h1 h2 hb
  · have h0 : rest = [] := List.length_eq_zero_iff.mp (by omega)
    subst h0
    rw [List.append_nil] at hp
    exact .inl ⟨by show (xs.length : Int).toNat ≤ i; omega, k done D H' hp nD hd hF' hfr⟩
end

/-! ### the flow -/
section
variable {P : Program} {w : World} {K : PySem.W.Frag} {mg : Str → Option Value} {base : Heap}
/-- what is left of a comprehension when its source is known -/
def LcGoal (J : It) (g : TG) (tt : TT) (te : TE) (vs : List Nat) (σ : L2.St) (H1 : Hp) (Q : VK) : Prop := ∀ D, H1 D = none → ∃ W : Nat → Nat → Hp → Prop, (∃ m, W 0 m (upd H1 D (.lst []))) ∧ ∀ i m H, W i m H →
  (J.stop i H ∧ Q (.ref D) H) ∨ (J.go i H ∧ ∃ Nx : Hp → Prop, (∀ H', Nx H' → ∃ m', m' < m ∧ W (i + 1) m' H') ∧ ∀ x H', J.yld i H x H' → g x (wipe σ vs) H' fun σ2 H2 => wipe σ2 vs = wipe σ vs ∧ tt σ2 H2 fun b H3 =>
    if b = true then te σ2 H3 fun y H4 => ∃ acc, H4 D = some (.lst acc) ∧ acc.length < sizeLine ∧ Nx (upd H4 D (.lst (acc ++ [y]))) else Nx H3)
theorem tLc_eq {wi : TI} {g : TG} {tt : TT} {te : TE} {vs : List Nat} {σ : L2.St} {H : Hp} {Q : VK} : L2.tLc wi g tt te vs σ H Q = wi σ H fun J H1 => LcGoal J g tt te vs σ H1 Q := rfl
/-- a comprehension over a list of ints that leaves the heap alone -/
theorem lc_ints {i : Nat} {vs : List Nat} {tt : TT} {te : TE} {σ : L2.St} {H1 : Hp} {a : Addr} {ns : List Int} {Q : VK} (p : Int → Bool) (f : Int → Int) (hS : SqL K H1 a (ns.map V.int)) (hl : ns.length ≤ sizeLine)
    (hw : ∀ x, wipe ((wipe σ vs).set i (some x)) vs = wipe σ vs)
    (hb : ∀ n H' (R : V → Hp → Prop) (R' : Hp → Prop), (p n = true → R (.int (f n)) H') → (p n = false → R' H') → tt ((wipe σ vs).set i (some (.int n))) H' fun b H3 => if b = true then te ((wipe σ vs).set i (some (.int n))) H3 R else R' H3)
    (q : ∀ D, H1 D = none → Q (.ref D) (upd H1 D (.lst (((ns.filter p).map f).map V.int)))) : LcGoal (Itl K a) (L2.gName i) tt te vs σ H1 Q := by
  intro D hD
  have q := q D hD
  have grow : ∀ acc b u, H1 b = some u → upd H1 D (.lst acc) b = some u := fun acc b u e => by rw [upd_ne (ne_of_none e hD)]; exact e
  refine ⟨fun j m H => H = upd H1 D (.lst ((((ns.take j).filter p).map f).map V.int)) ∧ m + j = ns.length, ⟨ns.length, rfl, rfl⟩, fun j m H h => ?_⟩
  obtain ⟨rfl, hm⟩ := h
  have hS2 := DL.sqL_mono (grow ((((ns.take j).filter p).map f).map V.int)) hS
  by_cases hj : j < ns.length
  · have e1 : (ns.map V.int)[j]? = some (.int ns[j]) := by rw [List.getElem?_map, List.getElem?_eq_getElem hj]; rfl
    have e2 : ns.take (j + 1) = ns.take j ++ [ns[j]] := by rw [List.take_add_one, List.getElem?_eq_getElem hj]; rfl
    refine .inr ⟨⟨_, _, hS2, e1⟩, fun H' => H' = upd H1 D (.lst ((((ns.take (j + 1)).filter p).map f).map V.int)), fun H' e => ⟨m - 1, by omega, e, by omega⟩, fun x H' hy => ?_⟩
    obtain ⟨rfl, g⟩ := hy
    have ex : x = .int ns[j] := Option.some.inj ((g _ hS2).symm.trans e1)
    subst ex
    refine ⟨hw _, hb _ _ _ _ (fun hp => ?_) fun hp => ?_⟩
    · refine ⟨_, upd_same, ?_, ?_⟩
      · rw [List.length_map, List.length_map]
        have := List.length_filter_le p (ns.take j)
        rw [List.length_take] at this
        omega
      · rw [L2.upd_upd, e2, List.filter_append, List.map_append, List.map_append]
        simp [hp]
    · rw [e2, List.filter_append, List.map_append, List.map_append]
      simp [hp]
  · have e3 : ns.take j = ns := List.take_of_length_le (by omega)
    rw [e3] at hS2 ⊢
    exact .inl ⟨⟨_, hS2, by rw [List.length_map]; omega⟩, q⟩
def spFlowH (K : PySem.W.Frag) : Sp := fun vs H Q _ => ∃ (a : Addr) (ns : List Int), vs = [.ref a] ∧ SqL K H a (ns.map V.int) ∧ ns.length ≤ 1000 ∧
  ∀ fl g c H', H fl = none → H g = none → H c = none → (∀ b u, H b = some u → H' b = some u) → FlowOk fl g c H' → Q (.ref fl) H'
theorem ok_flowH {f : Addr} {fd : FuncData} (F : Fun K "_law_flow" "_law_flow" s__law_flow f fd) (m_int : mg "int" = none) (m_abs : mg "abs" = none) : FnOk P w K mg base (L2.CX P w) 1 f fd ["script"] (spFlowH K) := by
  refine F.okX sc__law_flow (fun vs H Q E h => ?_) (fun cdv A outer s H vs Q E hr h => ?_)
  · obtain ⟨_, _, rfl, _⟩ := h
    rfl
  obtain ⟨a, ns, rfl, hS, hlen, k⟩ := h
  refine ⟨_, (pss_cons (ps_set (i := 1) sc__law_flow.nd rfl (by first | exact Or.inl rfl | exact Or.inr rfl) (pe_op op_cat (pe_lc (own := [("cell", 3)]) (g := gName 3) rfl sc__law_flow.nd (pi_list (pe_slice sl_seq (pv 0) po_none (po_some pe_int))) (blkOk_by (by kernel_rfl)) (fun _ _ _ _ _ => (pg_name (i := 3) sc__law_flow.nd rfl (by first | exact Or.inl rfl | exact Or.inr rfl))) (fun _ _ _ _ _ => pts_nil) (fun _ _ _ _ _ => (pe_callB call_abs (by rfl) m_abs PyProof.Rows.boot_abs (pa_cons (pe_callTy call_int1 (by rfl) m_int PyProof.Rows.boot_int (pa_cons (pv 3) pa_nil)) pa_nil)))) (pe_lst (pa_cons pe_int pa_nil))))
      (pss_cons (ps_set (i := 2) sc__law_flow.nd rfl (by first | exact Or.inl rfl | exact Or.inr rfl) (pe_lst pa_nil))
      (pss_cons (ps_if (pt_cmpR op_eq (pe_op op_mod (pe_callTy call_int1 (by rfl) m_int PyProof.Rows.boot_int (pa_cons (pe_ix ix_list (pv 1) pe_int (fun _ _ => rfl)) pa_nil)) pe_int) pe_int (nomark _))
      (pss_cons (ps_setLc (i := 2) (own := [("cell", 3)]) (g := gName 3) rfl sc__law_flow.nd rfl rfl (sw_true rfl rfl rfl (by decide +kernel)) (pi_list (pv 1)) (blkOk_by (by kernel_rfl)) (fun _ _ _ _ _ => (pg_name (i := 3) sc__law_flow.nd rfl (by first | exact Or.inl rfl | exact Or.inr rfl))) (fun _ _ _ _ _ => (pts_one (pt_cmpR op_ge (pv 3) (pe_op op_pow pe_int pe_int) (nomark _)))) (fun _ _ _ _ _ => (pe_op op_fdiv (pv 3) pe_int)))
      (pss_one (ps_expr (pe_bm0 PySem.F.plainAttrs_list PySem.F.slot_list_reverse PySem.F.type_list_reverse mt_reverse (pv 2)))))
      pss_nil)
      (pss_one (ps_ret (pe_lst (pa_cons pe_int (pa_cons pe_int (pa_cons (pv 2) (pa_cons pe_int (pa_cons (pe_lc (own := [("cell", 3)]) (g := gName 3) rfl sc__law_flow.nd (pi_list (pv 1)) (blkOk_by (by kernel_rfl)) (fun _ _ _ _ _ => (pg_name (i := 3) sc__law_flow.nd rfl (by first | exact Or.inl rfl | exact Or.inr rfl))) (fun _ _ _ _ _ => pts_nil) (fun _ _ _ _ _ => (pe_op op_mod (pe_callTy call_int1 (by rfl) m_int PyProof.Rows.boot_int (pa_cons (pv 3) pa_nil)) pe_int))) pa_nil))))))))))), ?_⟩
  simp only [L2.tSeq, L2.tAsg, L2.tRet, L2.tOp, L2.tCons, tLc_eq, List.map_cons, List.map_nil]
  have es : sizeLine = 16777216 := by decide +kernel
  obtain ⟨ms, hms, hml⟩ : ∃ ms : List Int, cutV (ns.map V.int) none (some 63) = ms.map V.int ∧ ms.length ≤ ns.length := by
    refine ⟨(ns.drop (HT.sIx (ns.map V.int).length 0 none)).take (HT.sIx (ns.map V.int).length (ns.map V.int).length (some 63) - HT.sIx (ns.map V.int).length 0 none), ?_, ?_⟩
    · unfold cutV
      rw [List.map_take, List.map_drop]
    · rw [List.length_take, List.length_drop]
      omega
  refine ⟨.ref a, rfl, 63, rfl, .inl ⟨a, ns.map V.int, rfl, hS, fun q hq => ?_⟩⟩
  rw [hms]
  refine ⟨q, rfl, ⟨_, SqL.of upd_same⟩, lc_ints (ns := ms) (fun _ => true) (fun n => if n < 0 then -n else n) (SqL.of upd_same) (by omega) (fun _ => rfl) (fun n H' R R' h1 _ => ?_) fun D hD => ?_⟩
  · simp only [L2.tYes, reduceIte]
    exact ⟨.int n, rfl, .inl ⟨n, rfl, n, rfl, h1 rfl⟩⟩
  have nDq : D ≠ q := fun e => by rw [e, upd_same] at hD; cases hD
  rw [upd_ne nDq] at hD
  refine ⟨by show 1 ≤ sizeLine; omega, fun p hp => ?_⟩
  have npD : p ≠ D := fun e => by rw [e, upd_same] at hp; cases hp
  rw [upd_ne npD] at hp
  have npq : p ≠ q := fun e => by rw [e, upd_same] at hp; cases hp
  rw [upd_ne npq] at hp
  have hml2 : ((((ms.filter fun _ => true).map fun n => if n < 0 then -n else n).map V.int)).length ≤ 1000 := by
    rw [List.length_map, List.length_map]
    exact Nat.le_trans (List.length_filter_le _ _) (by omega)
  refine ⟨D, p, _, [.int 7], rfl, rfl, by rw [upd_ne npD.symm]; exact upd_same, upd_same, by rw [List.length_singleton]; omega, fun r hr => ?_⟩
  have nrp : r ≠ p := fun e => by rw [e, upd_same] at hr; cases hr
  rw [upd_ne nrp] at hr
  have nrD : r ≠ D := fun e => by rw [e, upd_same] at hr; cases hr
  rw [upd_ne nrD] at hr
  have nrq : r ≠ q := fun e => by rw [e, upd_same] at hr; cases hr
  rw [upd_ne nrq] at hr
  obtain ⟨cs, ec, hcs, hcl⟩ : ∃ cs : List Int, ((ms.filter fun _ => true).map fun n => if n < 0 then -n else n).map V.int ++ [.int 7] = cs.map V.int ∧ cs ≠ [] ∧ cs.length ≤ 1001 := by
    refine ⟨((ms.filter fun _ => true).map fun n => if n < 0 then -n else n) ++ [7], by rw [List.map_append]; rfl, by simp, ?_⟩
    rw [List.length_append]
    rw [List.length_map] at hml2
    show _ + 1 ≤ _
    omega
  rw [ec]
  have old : ∀ b u, H b = some u → upd (upd (upd (upd H q (.lst (ms.map V.int))) D (.lst (((ms.filter fun _ => true).map fun n => if n < 0 then -n else n).map V.int))) p (.lst [.int 7])) r (.lst (cs.map V.int)) b = some u := fun b u e => by
    rw [upd_ne (ne_of_none e hr), upd_ne (ne_of_none e hp), upd_ne (ne_of_none e hD), upd_ne (ne_of_none e hq)]
    exact e
  have hc : upd (upd (upd (upd H q (.lst (ms.map V.int))) D (.lst (((ms.filter fun _ => true).map fun n => if n < 0 then -n else n).map V.int))) p (.lst [.int 7])) r (.lst (cs.map V.int)) r = some (.lst (cs.map V.int)) := upd_same
  generalize upd (upd (upd (upd H q (.lst (ms.map V.int))) D (.lst (((ms.filter fun _ => true).map fun n => if n < 0 then -n else n).map V.int))) p (.lst [.int 7])) r (.lst (cs.map V.int)) = H5 at old hc ⊢
  clear hml2 ec hml hms
  -- great = []
  refine ⟨Nat.zero_le _, fun g0 hg0 => ?_⟩
  have nrg : r ≠ g0 := fun e => by rw [e, hg0] at hc; cases hc
  have ng0 : H g0 = none := by
    cases e : H g0 with
    | none => rfl
    | some u => rw [old _ _ e] at hg0; cases hg0
  have old6 : ∀ b u, H b = some u → upd H5 g0 (.lst []) b = some u := fun b u e => by rw [upd_ne (ne_of_none e ng0)]; exact old b u e
  have hc6 : upd H5 g0 (.lst []) r = some (.lst (cs.map V.int)) := by rw [upd_ne nrg]; exact hc
  have hg6 : upd H5 g0 (.lst []) g0 = some (.lst []) := upd_same
  generalize upd H5 g0 (.lst []) = H6 at old6 hc6 hg6 ⊢
  obtain ⟨x0, xr, rfl⟩ : ∃ x xr, cs = x :: xr := by
    cases cs with
    | nil => exact absurd rfl hcs
    | cons x xr => exact ⟨x, xr, rfl⟩
  clear hc old hg0
  refine ⟨.ref r, rfl, rd hc6 (v := .int x0) (DL.atI_nat _ 0) (.inl ⟨x0, rfl, x0, 2, rfl, rfl, by omega, rfl, _, rfl, ?_⟩)⟩
  simp only [L2.tSeq, L2.tAsg, L2.tRet, L2.tNext, L2.tOp, L2.tCons, tLc_eq]
  split
  · refine ⟨.ref r, rfl, r, rfl, ⟨_, SqL.of hc6⟩, lc_ints (ns := x0 :: xr) (fun n => decide ((10 : Int) ^ (18 : Int).toNat ≤ n)) (fun n => n / 2) (SqL.of hc6) (by omega) (fun _ => rfl) (fun n H' R R' h1 h2 => ?_) fun G hG0 => ?_⟩
    · refine ⟨.int n, rfl, 10, 18, rfl, rfl, ⟨by omega, by omega, by decide⟩, n, (10 : Int) ^ (18 : Int).toNat, rfl, rfl, _, rfl, ?_⟩
      dsimp only
      split
      · rename_i q
        exact ⟨.int n, rfl, n, 2, rfl, rfl, ⟨by omega, by omega⟩, h1 q⟩
      · rename_i q
        exact h2 (by simpa using q)
    · generalize (((x0 :: xr).filter fun n => decide ((10 : Int) ^ (18 : Int).toNat ≤ n)).map fun n => n / 2) = gs0
      have nG : H G = none := by
        cases e : H G with
        | none => rfl
        | some u => rw [old6 _ _ e] at hG0; cases hG0
      have nrG : r ≠ G := fun e => by rw [e, hG0] at hc6; cases hc6
      simp only [L2.gName, L2.tDrop, L2.tRet, L2.tLst, L2.tCons, L2.tNil, tLc_eq]
      refine ⟨.ref G, rfl, .inl ⟨rfl, _, SqL.of upd_same⟩, G, _, rfl, rfl, upd_same, ?_⟩
      rw [L2.upd_upd, ← List.map_reverse]
      generalize gs0.reverse = gs
      have old7 : ∀ b u, H b = some u → upd H6 G (.lst (gs.map V.int)) b = some u := fun b u e => by rw [upd_ne (ne_of_none e nG)]; exact old6 b u e
      have hc7 : upd H6 G (.lst (gs.map V.int)) r = some (.lst ((x0 :: xr).map V.int)) := by rw [upd_ne nrG]; exact hc6
      have hG : upd H6 G (.lst (gs.map V.int)) G = some (.lst (gs.map V.int)) := upd_same
      generalize upd H6 G (.lst (gs.map V.int)) = H7 at old7 hc7 hG ⊢
      refine ⟨.ref G, rfl, .ref r, rfl, r, rfl, ⟨_, SqL.of hc7⟩, lc_ints (ns := x0 :: xr) (fun _ => true) (fun n => n % 2147483647) (SqL.of hc7) (by omega) (fun _ => rfl) (fun n H' R R' h1 _ => ?_) fun D2 hD2 => ?_⟩
      · simp only [L2.tYes, reduceIte]
        exact ⟨.int n, rfl, .inl ⟨n, rfl, n, 2147483647, rfl, rfl, by omega, h1 rfl⟩⟩
      · have n1 : G ≠ D2 := fun e => by rw [e, hD2] at hG; cases hG
        have n2 : r ≠ D2 := fun e => by rw [e, hD2] at hc7; cases hc7
        have nD2 : H D2 = none := by
          cases e : H D2 with
          | none => rfl
          | some u => rw [old7 _ _ e] at hD2; cases hD2
        refine ⟨by show 5 ≤ sizeLine; omega, fun fl hfl => ?_⟩
        have m1 : fl ≠ D2 := fun e => by rw [e, upd_same] at hfl; cases hfl
        rw [upd_ne m1] at hfl
        have m2 : fl ≠ G := fun e => by rw [e, hG] at hfl; cases hfl
        have nfl : H fl = none := by
          cases e : H fl with
          | none => rfl
          | some u => rw [old7 _ _ e] at hfl; cases hfl
        refine k fl G D2 _ nfl nG nD2 (fun b u e => ?_) ⟨0, 0, 0, gs, ((x0 :: xr).filter fun _ => true).map fun n => n % 2147483647, ?_, upd_same, ?_, ?_, m2, m1, n1⟩
        · rw [upd_ne (ne_of_none e nfl), upd_ne (ne_of_none e nD2)]
          exact old7 b u e
        · intro e
          have := congrArg List.length e
          rw [List.length_map, List.filter_eq_self.mpr (fun _ _ => rfl)] at this
          simp at this
        · rw [upd_ne m2.symm, upd_ne n1]; exact hG
        · rw [upd_ne m1.symm]; exact upd_same
  · have nG := ng0
    have old7 := old6
    have hc7 := hc6
    have hG : H6 g0 = some (.lst (([] : List Int).map V.int)) := hg6
    simp only [L2.gName, L2.tLst, L2.tCons, L2.tNil, tLc_eq]
    refine ⟨.ref g0, rfl, .ref r, rfl, r, rfl, ⟨_, SqL.of hc7⟩, lc_ints (ns := x0 :: xr) (fun _ => true) (fun n => n % 2147483647) (SqL.of hc7) (by omega) (fun _ => rfl) (fun n H' R R' h1 _ => ?_) fun D2 hD2 => ?_⟩
    · simp only [L2.tYes, reduceIte]
      exact ⟨.int n, rfl, .inl ⟨n, rfl, n, 2147483647, rfl, rfl, by omega, h1 rfl⟩⟩
    · have n1 : g0 ≠ D2 := fun e => by rw [e, hD2] at hG; cases hG
      have n2 : r ≠ D2 := fun e => by rw [e, hD2] at hc7; cases hc7
      have nD2 : H D2 = none := by
        cases e : H D2 with
        | none => rfl
        | some u => rw [old7 _ _ e] at hD2; cases hD2
      refine ⟨by show 5 ≤ sizeLine; omega, fun fl hfl => ?_⟩
      have m1 : fl ≠ D2 := fun e => by rw [e, upd_same] at hfl; cases hfl
      rw [upd_ne m1] at hfl
      have m2 : fl ≠ g0 := fun e => by rw [e, hG] at hfl; cases hfl
      have nfl : H fl = none := by
        cases e : H fl with
        | none => rfl
        | some u => rw [old7 _ _ e] at hfl; cases hfl
      refine k fl g0 D2 _ nfl nG nD2 (fun b u e => ?_) ⟨0, 0, 0, [], ((x0 :: xr).filter fun _ => true).map fun n => n % 2147483647, ?_, upd_same, ?_, ?_, m2, m1, n1⟩
      · rw [upd_ne (ne_of_none e nfl), upd_ne (ne_of_none e nD2)]
        exact old7 b u e
      · intro e
        have := congrArg List.length e
        rw [List.length_map, List.filter_eq_self.mpr (fun _ _ => rfl)] at this
        simp at this
      · rw [upd_ne m2.symm, upd_ne n1]; exact hG
      · rw [upd_ne m1.symm]; exact upd_same
end

end Law

set_option Elab.async false
set_option linter.all false
set_option maxRecDepth 100000
set_option maxHeartbeats 4000000
namespace Law
open PySem PySem.Spec PyProof.Rows L2 DL Mb
section
variable {P : Program} {w : World} {K : PySem.W.Frag} {mg : Str → Option Value} {base : Heap}
/-- the flow has turned: nothing else has -/
theorem turned {Z : Rg} {G H H' : Hp} (o : Ok Z G H) (hz : Z.on = true) (hF : FlowOk Z.fl Z.g Z.c H') (fr : ∀ b, b ≠ Z.fl → b ≠ Z.g → H b ≠ none → H' b = H b) : Ext Z G H G H' ∧ Ok Z G H' := by
  have old : ∀ b u, ¬ Z.has b → H b = some u → H' b = some u := fun b u nz e => by
    rw [fr b (fun q => nz ⟨hz, .inl q⟩) (fun q => nz ⟨hz, .inr (.inl q)⟩) (by rw [e]; exact fun z => by cases z)]
    exact e
  refine ⟨⟨fun _ _ e => e, old, fun b e => .inl e, fun b e => ?_⟩, ⟨fun b u e => ?_, fun _ => hF, o.d⟩⟩
  · obtain ⟨h1, h2, _⟩ := hF.there
    by_cases q1 : b = Z.fl
    · rw [q1]; exact h1
    · by_cases q2 : b = Z.g
      · rw [q2]; exact h2
      · rw [fr b q1 q2 e]; exact e
  · refine old b u (fun hz2 => ?_) (o.s b u e)
    rw [o.d b hz2] at e
    cases e
theorem fd_draw {f : Addr} {fd : FuncData} (F : Fun K "_law_draw" "_law_draw" s__law_draw f fd) (hm : mg "_law_draw" = some (.ref f)) (b : Binds K fd ["flow", "many"] []) (ml : mg "len" = none) (mi : mg "int" = none) : Fd P w K mg base "_law_draw" 1 ["flow", "many"] sp__law_draw := by
  refine ⟨f, fd, hm, F.kp, b, (ok_drawH F ml mi).imp fun vs H Q E h => ?_⟩
  obtain ⟨Z, G, ss, x, Qd, o, hv, _, ⟨many, ⟨h0, h1⟩, rfl, q⟩, k1, _⟩ := h
  obtain ⟨v, u, rfl, ⟨e1, hz⟩, e2⟩ := svs2 hv
  refine ⟨Z.fl, Z.g, Z.c, many, by rw [e1, e2.int], o.z hz, by omega, by omega, fun r H' r0 r1 hF fr => ?_⟩
  obtain ⟨j, rfl⟩ := Int.eq_ofNat_of_zero_le r0
  obtain ⟨q1, q2⟩ := turned o hz hF fun b h1 h2 _ => fr b h1 h2
  exact k1 (.dat (nI j)) (.int (j : Nat)) G H' ⟨q1, q2, Dq.int _, fun _ e => (by cases e), fun _ _ e => (by cases e)⟩ (fun _ e => by cases e) (q j (by omega))
theorem dp_perm {G : Hp} : ∀ {ys xs : List V}, ys.Perm xs → ∀ {ds : List D}, DqAll K G xs ds → ∃ es, es.Perm ds ∧ DqAll K G ys es := by
  intro ys xs h
  induction h with
  | nil => exact fun h => by cases h; exact ⟨[], .refl _, .nil⟩
  | cons x _ ih =>
    intro ds h
    cases h with
    | cons h1 h2 =>
      obtain ⟨es, e1, e2⟩ := ih h2
      exact ⟨_ :: es, e1.cons _, .cons h1 e2⟩
  | swap x y l =>
    intro ds h
    cases h with
    | cons h1 h2 =>
      cases h2 with
      | cons h3 h4 => exact ⟨_, .swap _ _ _, .cons h3 (.cons h1 h4)⟩
  | trans _ _ ih1 ih2 =>
    intro ds h
    obtain ⟨es, e1, e2⟩ := ih2 h
    obtain ⟨fs, e3, e4⟩ := ih1 e2
    exact ⟨fs, e3.trans e1, e4⟩
theorem fd_mixed {f fD : Addr} {fd fdD : FuncData} (F : Fun K "_law_mixed" "_law_mixed" s__law_mixed f fd) (hm : mg "_law_mixed" = some (.ref f)) (b : Binds K fd ["flow", "some"] []) (ml : mg "len" = none) (ml2 : mg "list" = none) (mr : mg "range" = none)
    (hmD : mg "_law_draw" = some (.ref fD)) (kD : PySem.W.keepIn K (.ref fD) = true) (bD : Binds K fdD ["flow", "many"] []) (GD : FnOk P w K mg base (L2.CX P w) 1 fD fdD ["flow", "many"] spDrawH) : Fd P w K mg base "_law_mixed" 2 ["flow", "some"] sp__law_mixed := by
  refine ⟨f, fd, hm, F.kp, b, (ok_mixH F ml ml2 mr hmD kD bD GD).imp fun vs H Q E h => ?_⟩
  obtain ⟨Z, G, ss, x, Qd, o, hv, _, ⟨s, ds, hl, rfl, hs, q⟩, k1, _⟩ := h
  obtain ⟨v, u, rfl, ⟨e1, hz⟩, e2⟩ := svs2 hv
  have main : ∃ a xs, u = .ref a ∧ (SqL K H a xs ∨ SqT K H a xs) ∧ DqAll K G xs ds := by
    rcases hs with rfl | rfl
    · obtain ⟨a, xs, e, h1, h2⟩ := e2.list o rfl
      exact ⟨a, xs, e, .inl h1, h2⟩
    · obtain ⟨a, xs, e, h1, h2⟩ := e2.tup o rfl
      exact ⟨a, xs, e, .inr (sqT_mono o.s h1), h2⟩
  obtain ⟨a, xs, rfl, h1, h2⟩ := main
  refine ⟨Z.fl, Z.g, Z.c, a, xs, by rw [e1], o.z hz, h1, by rw [h2.length]; omega, fun ys p H' hp n1 hp' hF fr => ?_⟩
  obtain ⟨es, e3, e4⟩ := dp_perm hp h2
  obtain ⟨q1, q2⟩ := turned o hz hF fr
  refine k1 (.own es) (.ref p) G H' ⟨q1, q2, ⟨p, ys, rfl, hp', e4, ?_, fun z => Z.there o.z p z n1⟩, fun _ _ l e => (by injection e with e; rw [← e]; exact n1), fun _ _ e => (by cases e)⟩ (fun _ e => by cases e) (q es e3)
  cases r : G p with
  | none => rfl
  | some t => rw [o.s p t r] at n1; cases n1
theorem mixed_goal {X : Cx} {W : WX} {s : Stmt} {rest : List Stmt} {t1 t2 : TS} {τ : DTS} {D : Ends} {σ : L2.St} {H : Hp} (h1 : PS X s t1) (h2 : DSs K mg W X rest t2 τ) (h : SemS K mg W t2 τ → tSeq t1 t2 D σ H) : ∃ t, PSs X (s :: rest) t ∧ t D σ H := ⟨_, pss_cons h1 h2.pe, h h2.sem⟩
theorem law_rest {t2 : TS} {τ : DTS} {n : Nat} {H H' : Hp} {a fl g c : Addr} {Q : VK} (sem : SemS K mg WF t2 τ) (n1 : H fl = none) (n2 : H g = none) (n3 : H c = none) (grow : ∀ b u, H b = some u → H' b = some u) (hF : FlowOk fl g c H')
    (hτ : ∀ (x : Xn) (Q : S → Prop), Q (.dat (.bool true)) → τ x { nx := fun _ => False, rt := Q } (none :: some .tok :: noneL n)) (k : ∀ v H', v = .bl true → Q v H') :
    t2 { nx := fun _ H' => Q .non H', rt := Q } (some (.ref a) :: some (.ref fl) :: List.replicate n none) H' := by
  have o : Ok ⟨true, fl, g, c⟩ H H' := ⟨grow, fun _ => hF, fun b ⟨_, h⟩ => by
    rcases h with rfl | rfl | rfl
    · exact n1
    · exact n2
    · exact n3⟩
  have nn : ∀ (n i : Nat) (s : S), lk (noneL n) i = some s → False := fun n i s e => envOf_none n i s e
  have ln : ∀ n : Nat, (noneL n).length = n := fun n => by
    induction n with
    | zero => rfl
    | succ n ih => exact congrArg (· + 1) ih
  refine sem ⟨true, fl, g, c⟩ H H' x0 XOk.no _ { nx := fun _ => False, rt := fun s => s = .dat (.bool true) } ⟨fun _ _ _ _ _ q => q.elim, fun s v G1 H1 g _ e => ?_, fun _ _ _ _ _ q => q.elim, fun _ _ _ _ _ q => q.elim⟩ _ (none :: some .tok :: noneL n) H H' ⟨o, .refl, fun i s e => ?_, fun i j ds es v m1 _ e1 _ _ _ => ?_, ?_⟩ (hτ x0 _ rfl)
  · subst e
    exact k v H1 g.sv.bl
  · match i, e with
    | 0, e => cases e
    | 1, e =>
      have e' : S.tok = s := Option.some.inj e
      subst e'
      exact ⟨.ref fl, rfl, rfl, rfl⟩
    | i + 2, e => exact (nn n i s e).elim
  · match i, e1 with
    | 0, e => cases e
    | 1, e =>
      have e' : S.tok = ds := Option.some.inj e
      subst e'
      cases m1
    | i + 2, e => exact (nn n i _ e).elim
  · simp [ln]
theorem cx_end {P : Program} {w : World} {H : Hp} {s : Shared} {e : Value} {s' : Shared} (h : L2.CX P w [] H s (fun _ _ _ => False) e s') : False := by
  obtain ⟨_, _, _, _, _, _, _, _, _, _, _, _, z⟩ := h
  exact z
theorem same_eq {n m : Nat} (h : n + 1 = m + 1) : sp_same n = sp_same m := by rw [show n = m by omega]


theorem sc__law_pick : FnScope ["flow", "some"] ["flow", "some"] (defScope s__law_pick) := ⟨rfl, rfl, rfl, by decide +kernel, rfl, by decide +kernel, by decide +kernel⟩
theorem ok__law_pick {f : Addr} {fd : FuncData} (F : Fun K "_law_pick" "_law_pick" s__law_pick f fd) (hm : mg "_law_pick" = some (.ref f)) (b : Binds K fd ["flow", "some"] []) (m_len : mg "len" = none) (G__law_draw : Fd P w K mg base "_law_draw" 1 ["flow", "many"] sp__law_draw) : Fd P w K mg base "_law_pick" 2 ["flow", "some"] sp__law_pick := by
  refine Fd.mk' F hm sc__law_pick b (fun ss x Q h => by obtain ⟨_, _, _, rfl, _⟩ := h; rfl) fun cdv A outer s H E hr => ⟨_, _, (dss_one (ds_ret (de_ix lift_ix ix_seq (dv 1) (de_call G__law_draw (hr.mono (by decide)) (by rfl) (da_cons (dv 0) (da_cons (de_cb lift_len cr_len (by rfl) m_len PySem.boot_len (da_cons (dv 1) da_nil)) da_nil)))))), ?_⟩
  exact sem__law_pick
theorem sc__mask : FnScope ["numbers", "number"] ["numbers"] (defScope s__mask) := ⟨rfl, rfl, rfl, by decide +kernel, rfl, by decide +kernel, by decide +kernel⟩
theorem ok__mask {f : Addr} {fd : FuncData} (F : Fun K "_mask" "_mask" s__mask f fd) (hm : mg "_mask" = some (.ref f)) (b : Binds K fd ["numbers"] []) (m_sum : mg "sum" = none) : Fd P w K mg base "_mask" 1 ["numbers"] sp__mask := by
  refine Fd.mk' F hm sc__mask b (fun ss x Q h => by obtain ⟨_, _, rfl, _⟩ := h; rfl) fun cdv A outer s H E hr => ⟨_, _, (dss_one (ds_ret (de_cb lift_sum (cr_sum rfl) (by rfl) m_sum PyProof.Rows.boot_sum (da_cons (de_lc (own := [("number", 1)]) rfl sc__mask.nd (db_seq (dv 0)) (blkOk_by (by kernel_rfl)) (fun _ _ _ _ _ => (dg_name (i := 1) sc__mask.nd rfl (by first | exact Or.inl rfl | exact Or.inr rfl))) gm_name (gw_name (by decide)) (fun _ _ _ _ _ => dts_nil) (fun _ _ _ _ _ => (de_op (lift_I fun _ _ _ => .int _) op_shlW de_int (dv 1)))) da_nil)))), ?_⟩
  exact sem__mask
theorem sc__numbers : FnScope ["mask", "number"] ["mask"] (defScope s__numbers) := ⟨rfl, rfl, rfl, by decide +kernel, rfl, by decide +kernel, by decide +kernel⟩
theorem ok__numbers {f : Addr} {fd : FuncData} (F : Fun K "_numbers" "_numbers" s__numbers f fd) (hm : mg "_numbers" = some (.ref f)) (b : Binds K fd ["mask"] []) (m_range : mg "range" = none) (m_tuple : mg "tuple" = none) : Fd P w K mg base "_numbers" 1 ["mask"] sp__numbers := by
  refine Fd.mk' F hm sc__numbers b (fun ss x Q h => by obtain ⟨_, _, _, rfl, _⟩ := h; rfl) fun cdv A outer s H E hr => ⟨_, _, (dss_one (ds_ret (de_ct lift_tuple cr_tuple (by rfl) m_tuple PyProof.Rows.boot_tuple (da_cons (de_lc (own := [("number", 1)]) rfl sc__numbers.nd (DI.b (di_rng1 (by rfl) m_range (da_cons (de_bits (dv 0)) da_nil))) (blkOk_by (by kernel_rfl)) (fun _ _ _ _ _ => (dg_name (i := 1) sc__numbers.nd rfl (by first | exact Or.inl rfl | exact Or.inr rfl))) gm_name (gw_name (by decide)) (fun _ _ _ _ _ => (dts_one (dt_tru (de_op (lift_I0 fun _ _ _ => .int _) op_and (de_op (lift_I fun _ _ _ => .int _) op_shr (dv 0) (dv 1)) de_int)))) (fun _ _ _ _ _ => (dv 1))) da_nil)))), ?_⟩
  exact sem__numbers
theorem sc__families_without : FnScope ["size", "found", "number", "family", "further"] ["size"] (defScope s__families_without) := ⟨rfl, rfl, rfl, by decide +kernel, rfl, by decide +kernel, by decide +kernel⟩
theorem ok__families_without {f : Addr} {fd : FuncData} (F : Fun K "_families_without" "_families_without" s__families_without f fd) (hm : mg "_families_without" = some (.ref f)) (b : Binds K fd ["size"] []) (m_range : mg "range" = none) : Fd P w K mg base "_families_without" 1 ["size"] sp__families_without := by
  refine Fd.mk' F hm sc__families_without b (fun ss x Q h => by obtain ⟨_, _, rfl, _⟩ := h; rfl) fun cdv A outer s H E hr => ⟨_, _, (dss_cons (ds_set (i := 1) sc__families_without.nd rfl (by first | exact Or.inl rfl | exact Or.inr rfl) (de_lst da_nil))
      (dss_cons (ds_for (passes_of rfl) rfl (di_rng1 (by rfl) m_range (da_cons (dv 0) da_nil)) (dg_name (i := 2) sc__families_without.nd rfl (by first | exact Or.inl rfl | exact Or.inr rfl))
      (dss_cons (ds_set (i := 3) sc__families_without.nd rfl (by first | exact Or.inl rfl | exact Or.inr rfl) (de_op (lift_I0 fun _ _ _ => .int _) op_sub (de_op (lift_I fun _ _ _ => .int _) op_shlW de_int (de_op (lift_I fun _ _ _ => .int _) op_shlW de_int (dv 2))) de_int))
      (dss_cons (ds_for (passes_of rfl) rfl (di_rng2 (by rfl) m_range (da_cons (de_op lift_plus op_plus (dv 2) de_int) (da_cons (dv 0) da_nil))) (dg_name (i := 4) sc__families_without.nd rfl (by first | exact Or.inl rfl | exact Or.inr rfl))
      (dss_one (ds_set (i := 3) sc__families_without.nd rfl (by first | exact Or.inl rfl | exact Or.inr rfl) (de_op (lift_I0 fun _ _ _ => .int _) op_or (dv 3) (de_op (lift_I fun _ _ _ => .int _) op_shlW (dv 3) (de_op (lift_I fun _ _ _ => .int _) op_shlW de_int (dv 4)))))))
      (dss_one (ds_append 1 (dv 3))))))
      (dss_one (ds_retv 1)))), ?_⟩
  exact sem__families_without
theorem sc__one_more : FnScope ["without", "family", "more", "number"] ["without", "family"] (defScope s__one_more) := ⟨rfl, rfl, rfl, by decide +kernel, rfl, by decide +kernel, by decide +kernel⟩
theorem ok__one_more {f : Addr} {fd : FuncData} (F : Fun K "_one_more" "_one_more" s__one_more f fd) (hm : mg "_one_more" = some (.ref f)) (b : Binds K fd ["without", "family"] []) (m_len : mg "len" = none) (m_range : mg "range" = none) : Fd P w K mg base "_one_more" 1 ["without", "family"] sp__one_more := by
  refine Fd.mk' F hm sc__one_more b (fun ss x Q h => by obtain ⟨_, _, _, rfl, _⟩ := h; rfl) fun cdv A outer s H E hr => ⟨_, _, (dss_cons (ds_set (i := 2) sc__one_more.nd rfl (by first | exact Or.inl rfl | exact Or.inr rfl) de_int)
      (dss_cons (ds_for (passes_of rfl) rfl (di_rng1 (by rfl) m_range (da_cons (de_cb lift_len cr_len (by rfl) m_len PySem.boot_len (da_cons (dv 0) da_nil)) da_nil)) (dg_name (i := 3) sc__one_more.nd rfl (by first | exact Or.inl rfl | exact Or.inr rfl))
      (dss_one (ds_set (i := 2) sc__one_more.nd rfl (by first | exact Or.inl rfl | exact Or.inr rfl) (de_op (lift_I0 fun _ _ _ => .int _) op_or (dv 2) (de_op (lift_I fun _ _ _ => .int _) op_shlW (de_op (lift_I0 fun _ _ _ => .int _) op_and (dv 1) (de_ix lift_ix ix_seq (dv 0) (dv 3))) (de_op (lift_I fun _ _ _ => .int _) op_shlW de_int (dv 3)))))))
      (dss_one (ds_retv 2)))), ?_⟩
  exact sem__one_more
theorem sc__holding : FnScope ["without", "family", "number"] ["without", "family"] (defScope s__holding) := ⟨rfl, rfl, rfl, by decide +kernel, rfl, by decide +kernel, by decide +kernel⟩
theorem ok__holding {f : Addr} {fd : FuncData} (F : Fun K "_holding" "_holding" s__holding f fd) (hm : mg "_holding" = some (.ref f)) (b : Binds K fd ["without", "family"] []) (m_len : mg "len" = none) (m_range : mg "range" = none) : Fd P w K mg base "_holding" 1 ["without", "family"] sp__holding := by
  refine Fd.mk' F hm sc__holding b (fun ss x Q h => by obtain ⟨_, _, _, rfl, _⟩ := h; rfl) fun cdv A outer s H E hr => ⟨_, _, (dss_cons (ds_for (passes_of rfl) rfl (di_rng1 (by rfl) m_range (da_cons (de_cb lift_len cr_len (by rfl) m_len PySem.boot_len (da_cons (dv 0) da_nil)) da_nil)) (dg_name (i := 2) sc__holding.nd rfl (by first | exact Or.inl rfl | exact Or.inr rfl))
      (dss_one (ds_set (i := 1) sc__holding.nd rfl (by first | exact Or.inl rfl | exact Or.inr rfl) (de_op (lift_I0 fun _ _ _ => .int _) op_or (dv 1) (de_op (lift_I fun _ _ _ => .int _) op_shlW (de_op (lift_I0 fun _ _ _ => .int _) op_and (dv 1) (de_ix lift_ix ix_seq (dv 0) (dv 2))) (de_op (lift_I fun _ _ _ => .int _) op_shlW de_int (dv 2)))))))
      (dss_one (ds_retv 1))), ?_⟩
  exact sem__holding
theorem sc__within : FnScope ["without", "family", "number"] ["without", "family"] (defScope s__within) := ⟨rfl, rfl, rfl, by decide +kernel, rfl, by decide +kernel, by decide +kernel⟩
theorem ok__within {f : Addr} {fd : FuncData} (F : Fun K "_within" "_within" s__within f fd) (hm : mg "_within" = some (.ref f)) (b : Binds K fd ["without", "family"] []) (m_len : mg "len" = none) (m_range : mg "range" = none) : Fd P w K mg base "_within" 1 ["without", "family"] sp__within := by
  refine Fd.mk' F hm sc__within b (fun ss x Q h => by obtain ⟨_, _, _, rfl, _⟩ := h; rfl) fun cdv A outer s H E hr => ⟨_, _, (dss_cons (ds_for (passes_of rfl) rfl (di_rng1 (by rfl) m_range (da_cons (de_cb lift_len cr_len (by rfl) m_len PySem.boot_len (da_cons (dv 0) da_nil)) da_nil)) (dg_name (i := 2) sc__within.nd rfl (by first | exact Or.inl rfl | exact Or.inr rfl))
      (dss_one (ds_set (i := 1) sc__within.nd rfl (by first | exact Or.inl rfl | exact Or.inr rfl) (de_op (lift_I0 fun _ _ _ => .int _) op_or (dv 1) (de_op (lift_I0 fun _ _ _ => .int _) op_and (de_op (lift_I fun _ _ _ => .int _) op_shr (dv 1) (de_op (lift_I fun _ _ _ => .int _) op_shlW de_int (dv 2))) (de_ix lift_ix ix_seq (dv 0) (dv 2)))))))
      (dss_one (ds_retv 1))), ?_⟩
  exact sem__within
theorem sc__members : FnScope ["family", "found", "one"] ["family"] (defScope s__members) := ⟨rfl, rfl, rfl, by decide +kernel, rfl, by decide +kernel, by decide +kernel⟩
theorem ok__members {f : Addr} {fd : FuncData} (F : Fun K "_members" "_members" s__members f fd) (hm : mg "_members" = some (.ref f)) (b : Binds K fd ["family"] []) (m_len : mg "len" = none) {t_MOST : Tok} (c_MOST : mg "MOST" = some (.int 2000 t_MOST)) (G__numbers : Fd P w K mg base "_numbers" 1 ["mask"] sp__numbers) {C_TooMany : Addr} (T_TooMany : ExcO K C_TooMany) (g_TooMany : mg "TooMany" = some (.ref C_TooMany)) : Fd P w K mg base "_members" 2 ["family"] spX_members := by
  refine Fd.mk' F hm sc__members b (fun ss x Q h => by obtain ⟨_, _, _, rfl, _⟩ := h; rfl) fun cdv A outer s H E hr => ⟨_, _, (dss_cons (ds_set (i := 1) sc__members.nd rfl (by first | exact Or.inl rfl | exact Or.inr rfl) (de_lst da_nil))
      (dss_cons (ds_while (passes_of rfl) (dt_tru (dv 0))
      (dss_cons (ds_if (dt_cmp lift_eq (op_eqD (hu4 hr)) (de_cb lift_len cr_len (by rfl) m_len PySem.boot_len (da_cons (dv 1) da_nil)) (de_gint (by rfl) c_MOST) (nomark _))
      (dss_one (ds_raise0 (by rfl) (takes_of rfl rfl rfl rfl) T_TooMany g_TooMany (by rfl)))
      dss_nil)
      (dss_cons (ds_set (i := 2) sc__members.nd rfl (by first | exact Or.inl rfl | exact Or.inr rfl) (de_op (lift_I0 fun _ _ _ => .int _) op_and (dv 0) (de_neg (dv 0))))
      (dss_cons (ds_append 1 (de_call G__numbers (hr.mono (by decide)) (by rfl) (da_cons (de_op (lift_I0 fun _ _ _ => .int _) op_sub (de_bits (dv 2)) de_int) da_nil)))
      (dss_one (ds_set (i := 0) sc__members.nd rfl (by first | exact Or.inl rfl | exact Or.inr rfl) (de_op (lift_I0 fun _ _ _ => .int _) op_xor (dv 0) (dv 2))))))))
      (dss_one (ds_retv 1)))), ?_⟩
  exact semX_members
theorem sc_least_hitting : FnScope ["sets", "size", "without", "whole", "missing", "numbers", "hitting", "least"] ["sets"] (defScope s_least_hitting) := ⟨rfl, rfl, rfl, by decide +kernel, rfl, by decide +kernel, by decide +kernel⟩
theorem ok_least_hitting {f : Addr} {fd : FuncData} (F : Fun K "least_hitting" "least_hitting" s_least_hitting f fd) (hm : mg "least_hitting" = some (.ref f)) (b : Binds K fd ["sets"] []) (kb : KBinds K fd ["sets"] ["sets"] (fun us ws => us ++ ws) (fun vs zs => vs ++ zs)) (m_max : mg "max" = none) (m_sorted : mg "sorted" = none) (m_tuple : mg "tuple" = none) (G__members : Fd P w K mg base "_members" 2 ["family"] spX_members) (G__one_more : Fd P w K mg base "_one_more" 1 ["without", "family"] sp__one_more) (G__within : Fd P w K mg base "_within" 1 ["without", "family"] sp__within) (G__mask : Fd P w K mg base "_mask" 1 ["numbers"] sp__mask) (G__families_without : Fd P w K mg base "_families_without" 1 ["size"] sp__families_without) : FdK P w K mg base "least_hitting" 3 ["sets"] spX_least_hitting := by
  refine FdK.mk' F hm sc_least_hitting b kb (fun ss x Q h => by obtain ⟨_, _, _, rfl, _⟩ := h; rfl) fun cdv A outer s H E hr => ⟨_, _, (dss_cons (ds_set (i := 1) sc_least_hitting.nd rfl (by first | exact Or.inl rfl | exact Or.inr rfl) (de_maxDef (hu5 hr) rfl (by rfl) m_max (de_lc (own := [("numbers", 5)]) rfl sc_least_hitting.nd (db_seq (dv 0)) (blkOk_by (by kernel_rfl)) (fun _ _ _ _ _ => (dg_name (i := 5) sc_least_hitting.nd rfl (by first | exact Or.inl rfl | exact Or.inr rfl))) gm_name (gw_name (by decide)) (fun _ _ _ _ _ => (dts_one (dt_tru (dv 5)))) (fun _ _ _ _ _ => (de_op lift_plus op_plus (de_ix lift_ix ix_seq (dv 5) (de_neg de_int)) de_int))) de_int))
      (dss_cons (ds_set (i := 2) sc_least_hitting.nd rfl (by first | exact Or.inl rfl | exact Or.inr rfl) (de_call G__families_without (hr.mono (by decide)) (by rfl) (da_cons (dv 1) da_nil)))
      (dss_cons (ds_set (i := 3) sc_least_hitting.nd rfl (by first | exact Or.inl rfl | exact Or.inr rfl) (de_op (lift_I0 fun _ _ _ => .int _) op_sub (de_op (lift_I fun _ _ _ => .int _) op_shlW de_int (dv 1)) de_int))
      (dss_cons (ds_set (i := 4) sc_least_hitting.nd rfl (by first | exact Or.inl rfl | exact Or.inr rfl) de_int)
      (DSs.frz 0 (dss_cons (ds_for (passes_of rfl) rfl (di_seq (dv 0)) (dg_name (i := 5) sc_least_hitting.nd rfl (by first | exact Or.inl rfl | exact Or.inr rfl))
      (dss_one (ds_set (i := 4) sc_least_hitting.nd rfl (by first | exact Or.inl rfl | exact Or.inr rfl) (de_op (lift_I0 fun _ _ _ => .int _) op_or (dv 4) (de_op (lift_I fun _ _ _ => .int _) op_shlW de_int (de_op (lift_I0 fun _ _ _ => .int _) op_xor (dv 3) (de_call G__mask (hr.mono (by decide)) (by rfl) (da_cons (dv 5) da_nil))))))))
      (dss_cons (ds_set (i := 4) sc_least_hitting.nd rfl (by first | exact Or.inl rfl | exact Or.inr rfl) (de_call G__within (hr.mono (by decide)) (by rfl) (da_cons (dv 2) (da_cons (dv 4) da_nil))))
      (dss_cons (ds_set (i := 6) sc_least_hitting.nd rfl (by first | exact Or.inl rfl | exact Or.inr rfl) (de_op (lift_I0 fun _ _ _ => .int _) op_xor (de_op (lift_I0 fun _ _ _ => .int _) op_sub (de_op (lift_I fun _ _ _ => .int _) op_shlW de_int (de_op (lift_I fun _ _ _ => .int _) op_shlW de_int (dv 1))) de_int) (dv 4)))
      (dss_cons (ds_set (i := 7) sc_least_hitting.nd rfl (by first | exact Or.inl rfl | exact Or.inr rfl) (de_op (lift_I0 fun _ _ _ => .int _) op_xor (dv 6) (de_op (lift_I0 fun _ _ _ => .int _) op_and (dv 6) (de_call G__one_more (hr.mono (by decide)) (by rfl) (da_cons (dv 2) (da_cons (dv 6) da_nil))))))
      (dss_one (ds_ret (de_ct lift_tuple cr_tuple (by rfl) m_tuple PyProof.Rows.boot_tuple (da_cons (de_cb lift_sorted (cr_sort (hu5 hr)) (by rfl) m_sorted PyProof.Rows.boot_sorted (da_cons (de_callX (takes_of rfl rfl rfl rfl) G__members (hr.mono (by decide)) (by rfl) (da_cons (dv 7) da_nil)) da_nil)) da_nil))))))))))))), ?_⟩
  exact semX_least_hitting
theorem sc__are_apart : FnScope ["size", "sets", "without", "masks", "family", "mask", "numbers"] ["size", "sets"] (defScope s__are_apart) := ⟨rfl, rfl, rfl, by decide +kernel, rfl, by decide +kernel, by decide +kernel⟩
theorem ok__are_apart {f : Addr} {fd : FuncData} (F : Fun K "_are_apart" "_are_apart" s__are_apart f fd) (hm : mg "_are_apart" = some (.ref f)) (b : Binds K fd ["size", "sets"] []) (m_len : mg "len" = none) (m_set : mg "set" = none) (G__one_more : Fd P w K mg base "_one_more" 1 ["without", "family"] sp__one_more) (G__holding : Fd P w K mg base "_holding" 1 ["without", "family"] sp__holding) (G__mask : Fd P w K mg base "_mask" 1 ["numbers"] sp__mask) (G__families_without : Fd P w K mg base "_families_without" 1 ["size"] sp__families_without) : Fd P w K mg base "_are_apart" 2 ["size", "sets"] sp__are_apart := by
  refine Fd.mk' F hm sc__are_apart b (fun ss x Q h => by obtain ⟨_, _, _, _, rfl, _⟩ := h; rfl) fun cdv A outer s H E hr => ⟨_, _, (dss_cons (ds_set (i := 2) sc__are_apart.nd rfl (by first | exact Or.inl rfl | exact Or.inr rfl) (de_call G__families_without (hr.mono (by decide)) (by rfl) (da_cons (dv 0) da_nil)))
      (dss_cons (ds_setLc (i := 3) (own := [("numbers", 6)]) rfl sc__are_apart.nd rfl rfl (sw_true rfl rfl rfl (by decide +kernel)) (db_seq (dv 1)) (blkOk_by (by kernel_rfl)) (fun _ _ _ _ _ => (dg_name (i := 6) sc__are_apart.nd rfl (by first | exact Or.inl rfl | exact Or.inr rfl))) gm_name (gw_name (by decide)) (fun _ _ _ _ _ => dts_nil) (fun _ _ _ _ _ => (de_call G__mask (hr.mono (by decide)) (by rfl) (da_cons (dv 6) da_nil))))
      (dss_cons (ds_set (i := 4) sc__are_apart.nd rfl (by first | exact Or.inl rfl | exact Or.inr rfl) de_int)
      (DSs.frz 3 (dss_cons (ds_for (passes_of rfl) rfl (di_seq (dv 3)) (dg_name (i := 5) sc__are_apart.nd rfl (by first | exact Or.inl rfl | exact Or.inr rfl))
      (dss_one (ds_set (i := 4) sc__are_apart.nd rfl (by first | exact Or.inl rfl | exact Or.inr rfl) (de_op (lift_I0 fun _ _ _ => .int _) op_or (dv 4) (de_op (lift_I fun _ _ _ => .int _) op_shlW de_int (dv 5))))))
      (dss_cons (ds_if (dt_cmp (lift_I0 fun _ _ _ => .bl _) op_lt (de_lenSet (by rfl) m_len (by rfl) m_set (dv 3)) (de_cb lift_len cr_len (by rfl) m_len PySem.boot_len (da_cons (dv 3) da_nil)) (nomark _))
      (dss_one (ds_ret de_bl))
      dss_nil)
      (dss_one (ds_ret (de_cmp lift_eq (op_eqD (hu4 hr)) (de_op (lift_I0 fun _ _ _ => .int _) op_and (dv 4) (de_call G__one_more (hr.mono (by decide)) (by rfl) (da_cons (dv 2) (da_cons (de_call G__holding (hr.mono (by decide)) (by rfl) (da_cons (dv 2) (da_cons (dv 4) da_nil))) da_nil)))) de_int (nomark _)))))))))), ?_⟩
  exact sem__are_apart
theorem sc_are_lists : FnScope ["size", "least", "greatest", "rests", "numbers", "k"] ["size", "least", "greatest"] (defScope s_are_lists) := ⟨rfl, rfl, rfl, by decide +kernel, rfl, by decide +kernel, by decide +kernel⟩
theorem okc_are_lists {f : Addr} {fd : FuncData} (F : Fun K "are_lists" "are_lists" s_are_lists f fd) (hm : mg "are_lists" = some (.ref f)) (b : Binds K fd ["size", "least", "greatest"] []) (m_range : mg "range" = none) (m_sorted : mg "sorted" = none) (m_tuple : mg "tuple" = none) (G_least_hitting : Fd P w K mg base "least_hitting" 3 ["sets"] spX_least_hitting) (G__are_apart : Fd P w K mg base "_are_apart" 2 ["size", "sets"] sp__are_apart) : FnOk P w K mg base (L2.CX P w) 4 f fd ["size", "least", "greatest"] (spD K mg spX_are_lists) := by
  refine Fd.core F hm sc_are_lists b (fun ss x Q h => by obtain ⟨_, _, _, _, _, _, rfl, _⟩ := h; rfl) fun cdv A outer s H E hr => ⟨_, _, (dss_cons (ds_if (DW.dt (dw_or (dt_not (dt_tru (de_call G__are_apart (hr.mono (by decide)) (by rfl) (da_cons (dv 0) (da_cons (dv 1) da_nil))))) (dw_or1 (dt_not (dt_tru (de_call G__are_apart (hr.mono (by decide)) (by rfl) (da_cons (dv 0) (da_cons (dv 2) da_nil))))))))
      (dss_one (ds_ret de_bl))
      dss_nil)
      (dss_cons (ds_setLc (i := 3) (own := [("numbers", 4)]) rfl sc_are_lists.nd rfl rfl (sw_true rfl rfl rfl (by decide +kernel)) (db_seq (dv 2)) (blkOk_by (by kernel_rfl)) (fun _ _ _ _ _ => (dg_name (i := 4) sc_are_lists.nd rfl (by first | exact Or.inl rfl | exact Or.inr rfl))) gm_name (gw_name (by decide)) (fun _ _ _ _ _ => dts_nil) (fun _ _ _ _ _ => (de_ct lift_tuple cr_tuple (by rfl) m_tuple PyProof.Rows.boot_tuple (da_cons (de_lc (own := [("k", 5)]) rfl sc_are_lists.nd (DI.b (di_rng1 (by rfl) m_range (da_cons (dv 0) da_nil))) (blkOk_by (by kernel_rfl)) (fun _ _ _ _ _ => (dg_name (i := 5) sc_are_lists.nd rfl (by first | exact Or.inl rfl | exact Or.inr rfl))) gm_name (gw_name (by decide)) (fun _ _ _ _ _ => (dts_one (dt_cmp lift_in (op_notInS (hu5 hr)) (dv 5) (dv 4) (by with_unfolding_all rfl)))) (fun _ _ _ _ _ => (dv 5))) da_nil))))
      (dss_one (ds_ret (de_cmp lift_eq (op_eqD (hu4 hr)) (de_ct lift_tuple cr_tuple (by rfl) m_tuple PyProof.Rows.boot_tuple (da_cons (de_cb lift_sorted (cr_sort (hu5 hr)) (by rfl) m_sorted PyProof.Rows.boot_sorted (da_cons (dv 3) da_nil)) da_nil)) (de_callX (takes_of rfl rfl rfl rfl) G_least_hitting (hr.mono (by decide)) (by rfl) (da_cons (dv 1) da_nil)) (nomark _)))))), ?_⟩
  exact sem_are_lists
theorem sc__law_subsets : FnScope ["some", "found", "one", "lot"] ["some"] (defScope s__law_subsets) := ⟨rfl, rfl, rfl, by decide +kernel, rfl, by decide +kernel, by decide +kernel⟩
theorem ok__law_subsets {f : Addr} {fd : FuncData} (F : Fun K "_law_subsets" "_law_subsets" s__law_subsets f fd) (hm : mg "_law_subsets" = some (.ref f)) (b : Binds K fd ["some"] [])  : Fd P w K mg base "_law_subsets" 1 ["some"] sp__law_subsets := by
  refine Fd.mk' F hm sc__law_subsets b (fun ss x Q h => by obtain ⟨_, _, rfl, _⟩ := h; rfl) fun cdv A outer s H E hr => ⟨_, _, (dss_cons (ds_set (i := 1) sc__law_subsets.nd rfl (by first | exact Or.inl rfl | exact Or.inr rfl) (de_lst (da_cons (de_tup da_nil) da_nil)))
      (DSs.frz 0 (dss_cons (ds_for (passes_of rfl) rfl (di_seq (dv 0)) (dg_name (i := 2) sc__law_subsets.nd rfl (by first | exact Or.inl rfl | exact Or.inr rfl))
      (dss_one (ds_set (i := 1) sc__law_subsets.nd rfl (by first | exact Or.inl rfl | exact Or.inr rfl) (de_op lift_plus op_plus (dv 1) (de_lc (own := [("lot", 3)]) rfl sc__law_subsets.nd (db_seq (dv 1)) (blkOk_by (by kernel_rfl)) (fun _ _ _ _ _ => (dg_name (i := 3) sc__law_subsets.nd rfl (by first | exact Or.inl rfl | exact Or.inr rfl))) gm_name (gw_name (by decide)) (fun _ _ _ _ _ => dts_nil) (fun _ _ _ _ _ => (de_op lift_plus op_plus (dv 3) (de_tup (da_cons (dv 2) da_nil)))))))))
      (dss_one (ds_retv 1))))), ?_⟩
  exact sem__law_subsets
theorem sc__law_least_of : FnScope ["sets", "found", "one", "within", "other", "n"] ["sets"] (defScope s__law_least_of) := ⟨rfl, rfl, rfl, by decide +kernel, rfl, by decide +kernel, by decide +kernel⟩
theorem ok__law_least_of {f : Addr} {fd : FuncData} (F : Fun K "_law_least_of" "_law_least_of" s__law_least_of f fd) (hm : mg "_law_least_of" = some (.ref f)) (b : Binds K fd ["sets"] []) (m_sorted : mg "sorted" = none) : Fd P w K mg base "_law_least_of" 1 ["sets"] sp46__law_least_of := by
  refine Fd.mk' F hm sc__law_least_of b (fun ss x Q h => by obtain ⟨_, _, _, rfl, _⟩ := h; rfl) fun cdv A outer s H E hr => ⟨_, _, (dss_cons (ds_set (i := 1) sc__law_least_of.nd rfl (by first | exact Or.inl rfl | exact Or.inr rfl) (de_lst da_nil))
      (dss_cons (ds_for (passes_of rfl) rfl (di_seq (de_cb lift_sortRS (cr_sortC (hu5 hr)) (by rfl) m_sorted PyProof.Rows.boot_sorted (da_cons (dv 0) da_nil))) (dg_name (i := 2) sc__law_least_of.nd rfl (by first | exact Or.inl rfl | exact Or.inr rfl))
      (dss_cons (ds_setLc (i := 3) (own := [("other", 4)]) rfl sc__law_least_of.nd rfl rfl (sw_true rfl rfl rfl (by decide +kernel)) (db_seq (dv 0)) (blkOk_by (by kernel_rfl)) (fun _ _ _ _ _ => (dg_name (i := 4) sc__law_least_of.nd rfl (by first | exact Or.inl rfl | exact Or.inr rfl))) gm_name (gw_name (by decide)) (fun _ _ _ _ _ => (dts_one (DW.dt (dw_and (dt_cmp lift_ne (op_neD (hu4 hr)) (dv 4) (dv 2) (nomark _)) (dw_and1 (dt_cmp lift_eq (op_eqD (hu4 hr)) (de_lc (own := [("n", 5)]) rfl sc__law_least_of.nd (db_seq (dv 4)) (blkOk_by (by kernel_rfl)) (fun _ _ _ _ _ => (dg_name (i := 5) sc__law_least_of.nd rfl (by first | exact Or.inl rfl | exact Or.inr rfl))) gm_name (gw_name (by decide)) (fun _ _ _ _ _ => (dts_one (dt_cmp lift_in (op_notInS (hu5 hr)) (dv 5) (dv 2) (by with_unfolding_all rfl)))) (fun _ _ _ _ _ => (dv 5))) (de_lst da_nil) (nomark _))))))) (fun _ _ _ _ _ => (dv 4)))
      (dss_one (ds_if (DW.dt (dw_and (dt_cmp lift_eq (op_eqD (hu4 hr)) (dv 3) (de_lst da_nil) (nomark _)) (dw_and1 (dt_cmp lift_in (op_notInS (hu5 hr)) (dv 2) (dv 1) (by with_unfolding_all rfl)))))
      (dss_one (ds_append 1 (dv 2)))
      dss_nil))))
      (dss_one (ds_retv 1)))), ?_⟩
  exact sem46__law_least_of
theorem sc__law_hits : FnScope ["lot", "sets", "one", "n"] ["lot", "sets"] (defScope s__law_hits) := ⟨rfl, rfl, rfl, by decide +kernel, rfl, by decide +kernel, by decide +kernel⟩
theorem ok__law_hits {f : Addr} {fd : FuncData} (F : Fun K "_law_hits" "_law_hits" s__law_hits f fd) (hm : mg "_law_hits" = some (.ref f)) (b : Binds K fd ["lot", "sets"] [])  : Fd P w K mg base "_law_hits" 1 ["lot", "sets"] sp__law_hits := by
  refine Fd.mk' F hm sc__law_hits b (fun ss x Q h => by obtain ⟨_, _, _, _, rfl, _⟩ := h; rfl) fun cdv A outer s H E hr => ⟨_, _, (dss_one (ds_ret (de_cmp lift_eq (op_eqD (hu4 hr)) (de_lc (own := [("one", 2)]) rfl sc__law_hits.nd (db_seq (dv 1)) (blkOk_by (by kernel_rfl)) (fun _ _ _ _ _ => (dg_name (i := 2) sc__law_hits.nd rfl (by first | exact Or.inl rfl | exact Or.inr rfl))) gm_name (gw_name (by decide)) (fun _ _ _ _ _ => (dts_one (dt_cmp lift_eq (op_eqD (hu4 hr)) (de_lc (own := [("n", 3)]) rfl sc__law_hits.nd (db_seq (dv 2)) (blkOk_by (by kernel_rfl)) (fun _ _ _ _ _ => (dg_name (i := 3) sc__law_hits.nd rfl (by first | exact Or.inl rfl | exact Or.inr rfl))) gm_name (gw_name (by decide)) (fun _ _ _ _ _ => (dts_one (dt_cmp lift_in (op_inS (hu5 hr)) (dv 3) (dv 0) (by with_unfolding_all rfl)))) (fun _ _ _ _ _ => (dv 3))) (de_lst da_nil) (nomark _)))) (fun _ _ _ _ _ => (dv 2))) (de_lst da_nil) (nomark _)))), ?_⟩
  exact sem__law_hits
theorem sc__law_drawn_sets : FnScope ["flow", "numbers", "sets", "turn", "way", "many", "one"] ["flow", "numbers"] (defScope s__law_drawn_sets) := ⟨rfl, rfl, rfl, by decide +kernel, rfl, by decide +kernel, by decide +kernel⟩
theorem ok__law_drawn_sets {f : Addr} {fd : FuncData} (F : Fun K "_law_drawn_sets" "_law_drawn_sets" s__law_drawn_sets f fd) (hm : mg "_law_drawn_sets" = some (.ref f)) (b : Binds K fd ["flow", "numbers"] []) (m_range : mg "range" = none) (m_sorted : mg "sorted" = none) (m_tuple : mg "tuple" = none) (G__law_pick : Fd P w K mg base "_law_pick" 2 ["flow", "some"] sp__law_pick) (G__law_draw : Fd P w K mg base "_law_draw" 1 ["flow", "many"] sp__law_draw) (G__law_mixed : Fd P w K mg base "_law_mixed" 2 ["flow", "some"] sp__law_mixed) : Fd P w K mg base "_law_drawn_sets" 3 ["flow", "numbers"] sp__law_drawn_sets := by
  refine Fd.mk' F hm sc__law_drawn_sets b (fun ss x Q h => by obtain ⟨_, _, rfl, _⟩ := h; rfl) fun cdv A outer s H E hr => ⟨_, _, (dss_cons (ds_set (i := 2) sc__law_drawn_sets.nd rfl (by first | exact Or.inl rfl | exact Or.inr rfl) (de_lst da_nil))
      (dss_cons (ds_for (passes_of rfl) rfl (di_rng1 (by rfl) m_range (da_cons (de_call G__law_pick (hr.mono (by decide)) (by rfl) (da_cons (dv 0) (da_cons (de_lst (da_cons de_int (da_cons de_int (da_cons de_int (da_cons de_int (da_cons de_int (da_cons de_int (da_cons de_int (da_cons de_int da_nil))))))))) da_nil))) da_nil)) (dg_name (i := 3) sc__law_drawn_sets.nd rfl (by first | exact Or.inl rfl | exact Or.inr rfl))
      (dss_cons (ds_set (i := 4) sc__law_drawn_sets.nd rfl (by first | exact Or.inl rfl | exact Or.inr rfl) (de_call G__law_draw (hr.mono (by decide)) (by rfl) (da_cons (dv 0) (da_cons de_int da_nil))))
      (dss_cons (ds_set (i := 5) sc__law_drawn_sets.nd rfl (by first | exact Or.inl rfl | exact Or.inr rfl) (de_call G__law_pick (hr.mono (by decide)) (by rfl) (da_cons (dv 0) (da_cons (de_lst (da_cons de_int (da_cons de_int (da_cons de_int (da_cons de_int (da_cons de_int (da_cons de_int da_nil))))))) da_nil))))
      (dss_cons (ds_set (i := 6) sc__law_drawn_sets.nd rfl (by first | exact Or.inl rfl | exact Or.inr rfl) (de_ct lift_tuple cr_tuple (by rfl) m_tuple PyProof.Rows.boot_tuple (da_cons (de_cb lift_sorted (cr_sort (hu5 hr)) (by rfl) m_sorted PyProof.Rows.boot_sorted (da_cons (de_sl (de_call G__law_mixed (hr.mono (by decide)) (by rfl) (da_cons (dv 0) (da_cons (dv 1) da_nil))) do_none (do_some (dv 5))) da_nil)) da_nil)))
      (dss_cons (ds_if (DW.dt (dw_and (dt_cmp lift_eq (op_eqD (hu4 hr)) (dv 4) de_int (nomark _)) (dw_and1 (dt_cmp lift_ne (op_neD (hu4 hr)) (dv 2) (de_lst da_nil) (nomark _)))))
      (dss_one (ds_set (i := 6) sc__law_drawn_sets.nd rfl (by first | exact Or.inl rfl | exact Or.inr rfl) (de_call G__law_pick (hr.mono (by decide)) (by rfl) (da_cons (dv 0) (da_cons (dv 2) da_nil)))))
      dss_nil)
      (dss_cons (ds_if (DW.dt (dw_and (dt_cmp lift_eq (op_eqD (hu4 hr)) (dv 4) de_int (nomark _)) (dw_and1 (dt_cmp lift_ne (op_neD (hu4 hr)) (dv 2) (de_lst da_nil) (nomark _)))))
      (dss_cons (ds_set (i := 6) sc__law_drawn_sets.nd rfl (by first | exact Or.inl rfl | exact Or.inr rfl) (de_sl (de_call G__law_pick (hr.mono (by decide)) (by rfl) (da_cons (dv 0) (da_cons (dv 2) da_nil))) (do_some de_int) do_none))
      (dss_one (ds_set (i := 6) sc__law_drawn_sets.nd rfl (by first | exact Or.inl rfl | exact Or.inr rfl) (de_if (dt_cmp lift_ne (op_neD (hu4 hr)) (dv 6) (de_tup da_nil) (nomark _)) (dv 6) (de_ct lift_tuple cr_tuple (by rfl) m_tuple PyProof.Rows.boot_tuple (da_cons (de_sl (dv 1) do_none (do_some de_int)) da_nil))))))
      dss_nil)
      (dss_cons (ds_if (DW.dt (dw_and (dt_cmp lift_eq (op_eqD (hu4 hr)) (dv 4) de_int (nomark _)) (dw_and1 (dt_cmp lift_eq (op_eqD (hu4 hr)) (de_call G__law_draw (hr.mono (by decide)) (by rfl) (da_cons (dv 0) (da_cons de_int da_nil))) de_int (nomark _)))))
      (dss_one (ds_set (i := 6) sc__law_drawn_sets.nd rfl (by first | exact Or.inl rfl | exact Or.inr rfl) (de_tup da_nil)))
      dss_nil)
      (dss_one (ds_append 2 (dv 6))))))))))
      (dss_one (ds_ret (de_ct lift_tuple cr_tuple (by rfl) m_tuple PyProof.Rows.boot_tuple (da_cons (dv 2) da_nil)))))), ?_⟩
  exact sem__law_drawn_sets
theorem sc__law_is_least : FnScope ["lot", "sets", "n", "m"] ["lot", "sets"] (defScope s__law_is_least) := ⟨rfl, rfl, rfl, by decide +kernel, rfl, by decide +kernel, by decide +kernel⟩
theorem ok__law_is_least {f : Addr} {fd : FuncData} (F : Fun K "_law_is_least" "_law_is_least" s__law_is_least f fd) (hm : mg "_law_is_least" = some (.ref f)) (b : Binds K fd ["lot", "sets"] []) (G__law_hits : Fd P w K mg base "_law_hits" 1 ["lot", "sets"] sp__law_hits) : Fd P w K mg base "_law_is_least" 2 ["lot", "sets"] sp__law_is_least := by
  refine Fd.mk' F hm sc__law_is_least b (fun ss x Q h => by obtain ⟨_, _, _, rfl, _⟩ := h; rfl) fun cdv A outer s H E hr => ⟨_, _, (dss_one (ds_ret (de_and (de_call G__law_hits (hr.mono (by decide)) (by rfl) (da_cons (dv 0) (da_cons (dv 1) da_nil))) (de_one (de_cmp lift_eq (op_eqD (hu4 hr)) (de_lc (own := [("n", 2)]) rfl sc__law_is_least.nd (db_seq (dv 0)) (blkOk_by (by kernel_rfl)) (fun _ _ _ _ _ => (dg_name (i := 2) sc__law_is_least.nd rfl (by first | exact Or.inl rfl | exact Or.inr rfl))) gm_name (gw_name (by decide)) (fun _ _ _ _ _ => (dts_one (dt_tru (de_call G__law_hits (hr.mono (by decide)) (by rfl) (da_cons (de_lc (own := [("m", 3)]) rfl sc__law_is_least.nd (db_seq (dv 0)) (blkOk_by (by kernel_rfl)) (fun _ _ _ _ _ => (dg_name (i := 3) sc__law_is_least.nd rfl (by first | exact Or.inl rfl | exact Or.inr rfl))) gm_name (gw_name (by decide)) (fun _ _ _ _ _ => (dts_one (dt_cmp lift_ne (op_neD (hu4 hr)) (dv 3) (dv 2) (nomark _)))) (fun _ _ _ _ _ => (dv 3))) (da_cons (dv 1) da_nil)))))) (fun _ _ _ _ _ => (dv 2))) (de_lst da_nil) (nomark _)))))), ?_⟩
  exact sem__law_is_least
theorem sc__law_lot_of_rows : FnScope ["flow", "numbers", "way", "size", "rows", "lot", "k"] ["flow", "numbers"] (defScope s__law_lot_of_rows) := ⟨rfl, rfl, rfl, by decide +kernel, rfl, by decide +kernel, by decide +kernel⟩
theorem ok__law_lot_of_rows {f : Addr} {fd : FuncData} (F : Fun K "_law_lot_of_rows" "_law_lot_of_rows" s__law_lot_of_rows f fd) (hm : mg "_law_lot_of_rows" = some (.ref f)) (b : Binds K fd ["flow", "numbers"] []) (m_int : mg "int" = none) (m_len : mg "len" = none) (m_range : mg "range" = none) (m_sorted : mg "sorted" = none) (m_tuple : mg "tuple" = none) (G__law_subsets : Fd P w K mg base "_law_subsets" 1 ["some"] sp__law_subsets) (G__law_draw : Fd P w K mg base "_law_draw" 1 ["flow", "many"] sp__law_draw) : Fd P w K mg base "_law_lot_of_rows" 2 ["flow", "numbers"] sp__law_lot_of_rows := by
  refine Fd.mk' F hm sc__law_lot_of_rows b (fun ss x Q h => by obtain ⟨_, _, rfl, _⟩ := h; rfl) fun cdv A outer s H E hr => ⟨_, _, (dss_cons (ds_set (i := 2) sc__law_lot_of_rows.nd rfl (by first | exact Or.inl rfl | exact Or.inr rfl) (de_call G__law_draw (hr.mono (by decide)) (by rfl) (da_cons (dv 0) (da_cons de_int da_nil))))
      (dss_cons (ds_set (i := 3) sc__law_lot_of_rows.nd rfl (by first | exact Or.inl rfl | exact Or.inr rfl) (de_cb lift_len cr_len (by rfl) m_len PySem.boot_len (da_cons (dv 1) da_nil)))
      (dss_cons (ds_if (dt_cmp lift_eq (op_eqD (hu4 hr)) (dv 2) de_int (nomark _))
      (dss_one (ds_ret (de_tup (da_cons (de_lc (own := [("lot", 5)]) rfl sc__law_lot_of_rows.nd (db_seq (de_call G__law_subsets (hr.mono (by decide)) (by rfl) (da_cons (dv 1) da_nil))) (blkOk_by (by kernel_rfl)) (fun _ _ _ _ _ => (dg_name (i := 5) sc__law_lot_of_rows.nd rfl (by first | exact Or.inl rfl | exact Or.inr rfl))) gm_name (gw_name (by decide)) (fun _ _ _ _ _ => (dts_one (dt_cmp lift_eq (op_eqD (hu4 hr)) (de_cb lift_len cr_len (by rfl) m_len PySem.boot_len (da_cons (dv 5) da_nil)) de_int (nomark _)))) (fun _ _ _ _ _ => (dv 5))) (da_cons (dv 3) da_nil)))))
      dss_nil)
      (dss_cons (ds_if (dt_cmp lift_eq (op_eqD (hu4 hr)) (dv 2) de_int (nomark _))
      (dss_one (ds_ret (de_tup (da_cons (de_lc (own := [("lot", 5)]) rfl sc__law_lot_of_rows.nd (db_seq (de_call G__law_subsets (hr.mono (by decide)) (by rfl) (da_cons (dv 1) da_nil))) (blkOk_by (by kernel_rfl)) (fun _ _ _ _ _ => (dg_name (i := 5) sc__law_lot_of_rows.nd rfl (by first | exact Or.inl rfl | exact Or.inr rfl))) gm_name (gw_name (by decide)) (fun _ _ _ _ _ => (dts_one (dt_cmp lift_eq (op_eqD (hu4 hr)) (de_cb lift_len cr_len (by rfl) m_len PySem.boot_len (da_cons (dv 5) da_nil)) de_int (nomark _)))) (fun _ _ _ _ _ => (dv 5))) (da_cons (de_dgetK (hu1 hr) (de_disp_ii (by decide)) (dv 3)) da_nil)))))
      dss_nil)
      (dss_cons (ds_setLc (i := 4) (own := [("k", 6)]) rfl sc__law_lot_of_rows.nd rfl rfl (sw_true rfl rfl rfl (by decide +kernel)) (DI.b (di_rng1 (by rfl) m_range (da_cons (dv 3) da_nil))) (blkOk_by (by kernel_rfl)) (fun _ _ _ _ _ => (dg_name (i := 6) sc__law_lot_of_rows.nd rfl (by first | exact Or.inl rfl | exact Or.inr rfl))) gm_name (gw_name (by decide)) (fun _ _ _ _ _ => dts_nil) (fun _ _ _ _ _ => (de_ct lift_tuple cr_tuple (by rfl) m_tuple PyProof.Rows.boot_tuple (da_cons (de_cb lift_sorted (cr_sort (hu5 hr)) (by rfl) m_sorted PyProof.Rows.boot_sorted (da_cons (de_tup (da_cons (de_ix lift_ix ix_seq (dv 1) (dv 6)) (da_cons (de_ix lift_ix ix_seq (dv 1) (de_op (lift_I fun _ _ _ => .int _) op_mod (de_ct lift_int1 call_int1 (by rfl) m_int PyProof.Rows.boot_int (da_cons (de_op lift_plus op_plus (dv 6) de_int) da_nil)) (dv 3))) da_nil))) da_nil)) da_nil))))
      (DSs.frz 4 (dss_one (ds_ret (de_tup (da_cons (dv 4) (da_cons (de_dgetK (hu1 hr) (de_disp_ii (by decide)) (dv 3)) da_nil))))))))))), ?_⟩
  exact sem__law_lot_of_rows
theorem sc__law_many_rows : FnScope ["flow", "left", "rows", "many", "turn", "size", "more", "ways"] ["flow"] (defScope s__law_many_rows) := ⟨rfl, rfl, rfl, by decide +kernel, rfl, by decide +kernel, by decide +kernel⟩
theorem ok__law_many_rows {f : Addr} {fd : FuncData} (F : Fun K "_law_many_rows" "_law_many_rows" s__law_many_rows f fd) (hm : mg "_law_many_rows" = some (.ref f)) (b : Binds K fd ["flow"] []) (m_list : mg "list" = none) (m_range : mg "range" = none) (m_sorted : mg "sorted" = none) (m_tuple : mg "tuple" = none) (G__law_mixed : Fd P w K mg base "_law_mixed" 2 ["flow", "some"] sp__law_mixed) (G__law_pick : Fd P w K mg base "_law_pick" 2 ["flow", "some"] sp__law_pick) (G__law_lot_of_rows : Fd P w K mg base "_law_lot_of_rows" 2 ["flow", "numbers"] sp__law_lot_of_rows) (G__law_draw : Fd P w K mg base "_law_draw" 1 ["flow", "many"] sp__law_draw) : Fd P w K mg base "_law_many_rows" 3 ["flow"] sp__law_many_rows := by
  refine Fd.mk' F hm sc__law_many_rows b (fun ss x Q h => by obtain ⟨rfl, _⟩ := h; rfl) fun cdv A outer s H E hr => ⟨_, _, (dss_cons (ds_par3 (i := 1) (j := 2) (l := 3) rfl sc__law_many_rows.nd rfl rfl rfl (by decide) (by decide) (by decide) rfl rfl rfl (de_call G__law_mixed (hr.mono (by decide)) (by rfl) (da_cons (dv 0) (da_cons (de_listRg rfl (by rfl) m_list (dr_1 (by rfl) m_range de_int)) da_nil))) (de_lst da_nil) de_int (by rfl))
      (dss_cons (ds_for (passes_of rfl) rfl (di_rng1 (by rfl) m_range (da_cons (de_call G__law_pick (hr.mono (by decide)) (by rfl) (da_cons (dv 0) (da_cons (de_lst (da_cons de_int (da_cons de_int (da_cons de_int (da_cons de_int da_nil))))) da_nil))) da_nil)) (dg_name (i := 4) sc__law_many_rows.nd rfl (by first | exact Or.inl rfl | exact Or.inr rfl))
      (dss_cons (ds_set (i := 5) sc__law_many_rows.nd rfl (by first | exact Or.inl rfl | exact Or.inr rfl) (de_op lift_plus op_plus de_int (de_call G__law_draw (hr.mono (by decide)) (by rfl) (da_cons (dv 0) (da_cons de_int da_nil)))))
      (dss_cons (ds_asg (de_call G__law_lot_of_rows (hr.mono (by decide)) (by rfl) (da_cons (dv 0) (da_cons (de_cb lift_sorted (cr_sort (hu5 hr)) (by rfl) m_sorted PyProof.Rows.boot_sorted (da_cons (de_sl (dv 1) do_none (do_some (dv 5))) da_nil)) da_nil))) (dg_tup rfl (dgs_cons (dg_name (i := 6) sc__law_many_rows.nd rfl (by first | exact Or.inl rfl | exact Or.inr rfl)) (dgs_cons (dg_name (i := 7) sc__law_many_rows.nd rfl (by first | exact Or.inl rfl | exact Or.inr rfl)) dgs_nil))))
      (dss_cons (ds_set (i := 1) sc__law_many_rows.nd rfl (by first | exact Or.inl rfl | exact Or.inr rfl) (de_sl (dv 1) (do_some (dv 5)) do_none))
      (dss_cons (ds_set (i := 2) sc__law_many_rows.nd rfl (by first | exact Or.inl rfl | exact Or.inr rfl) (de_op lift_plus op_plus (dv 2) (dv 6)))
      (dss_one (ds_set (i := 3) sc__law_many_rows.nd rfl (by first | exact Or.inl rfl | exact Or.inr rfl) (de_op (lift_I fun _ _ _ => .int _) op_mulX (dv 3) (dv 7)))))))))
      (dss_one (ds_ret (de_tup (da_cons (de_ct lift_tuple cr_tuple (by rfl) m_tuple PyProof.Rows.boot_tuple (da_cons (de_call G__law_mixed (hr.mono (by decide)) (by rfl) (da_cons (dv 0) (da_cons (de_op lift_plus op_plus (dv 2) (de_sl (dv 2) do_none (do_some de_int))) da_nil))) da_nil)) (da_cons (dv 3) da_nil))))))), ?_⟩
  exact sem__law_many_rows
theorem sc__law_rest : FnScope ["size", "sets", "one", "n"] ["size", "sets"] (defScope s__law_rest) := ⟨rfl, rfl, rfl, by decide +kernel, rfl, by decide +kernel, by decide +kernel⟩
theorem ok__law_rest {f : Addr} {fd : FuncData} (F : Fun K "_law_rest" "_law_rest" s__law_rest f fd) (hm : mg "_law_rest" = some (.ref f)) (b : Binds K fd ["size", "sets"] []) (m_range : mg "range" = none) (m_sorted : mg "sorted" = none) (m_tuple : mg "tuple" = none) : Fd P w K mg base "_law_rest" 1 ["size", "sets"] sp__law_rest := by
  refine Fd.mk' F hm sc__law_rest b (fun ss x Q h => by obtain ⟨_, _, _, rfl, _⟩ := h; rfl) fun cdv A outer s H E hr => ⟨_, _, (dss_one (ds_ret (de_ct lift_tuple cr_tuple (by rfl) m_tuple PyProof.Rows.boot_tuple (da_cons (de_cb lift_sorted (cr_sort (hu5 hr)) (by rfl) m_sorted PyProof.Rows.boot_sorted (da_cons (de_lc (own := [("one", 2)]) rfl sc__law_rest.nd (db_seq (dv 1)) (blkOk_by (by kernel_rfl)) (fun _ _ _ _ _ => (dg_name (i := 2) sc__law_rest.nd rfl (by first | exact Or.inl rfl | exact Or.inr rfl))) gm_name (gw_name (by decide)) (fun _ _ _ _ _ => dts_nil) (fun _ _ _ _ _ => (de_ct lift_tuple cr_tuple (by rfl) m_tuple PyProof.Rows.boot_tuple (da_cons (de_lc (own := [("n", 3)]) rfl sc__law_rest.nd (DI.b (di_rng1 (by rfl) m_range (da_cons (dv 0) da_nil))) (blkOk_by (by kernel_rfl)) (fun _ _ _ _ _ => (dg_name (i := 3) sc__law_rest.nd rfl (by first | exact Or.inl rfl | exact Or.inr rfl))) gm_name (gw_name (by decide)) (fun _ _ _ _ _ => (dts_one (dt_cmp lift_in (op_notInS (hu5 hr)) (dv 3) (dv 2) (by with_unfolding_all rfl)))) (fun _ _ _ _ _ => (dv 3))) da_nil)))) da_nil)) da_nil)))), ?_⟩
  exact sem__law_rest
theorem sc__law_same : FnScope ["found", "due", "k"] ["found", "due"] (defScope s__law_same) := ⟨rfl, rfl, rfl, by decide +kernel, rfl, by decide +kernel, by decide +kernel⟩
theorem ok__law_same_0 {f : Addr} {fd : FuncData} (F : Fun K "_law_same" "_law_same" s__law_same f fd) (hm : mg "_law_same" = some (.ref f)) (b : Binds K fd ["found", "due"] []) (m_bool : mg "bool" = none) (m_int : mg "int" = none) (m_isinstance : mg "isinstance" = none) (m_len : mg "len" = none) (m_range : mg "range" = none) (m_str : mg "str" = none) (m_tuple : mg "tuple" = none) (G__law_same : Fd P w K mg base "_law_same" 1 ["found", "due"] (fun _ _ _ => False)) : Fd P w K mg base "_law_same" 2 ["found", "due"] (sp_sameB 0) := by
  refine Fd.mk' F hm sc__law_same b (fun ss x Q h => by obtain ⟨_, _, rfl, _⟩ := h; rfl) fun cdv A outer s H E hr => ⟨_, _, (dss_cons (ds_if (dt_tru (de_isi (by rfl) m_isinstance (by rfl) m_tuple PyProof.Rows.boot_tuple kitT_tuple (dv 1)))
      (dss_cons (ds_if (DW.dt (dw_or (dt_not (dt_tru (de_isi (by rfl) m_isinstance (by rfl) m_tuple PyProof.Rows.boot_tuple kitT_tuple (dv 0)))) (dw_or1 (dt_cmp lift_ne (op_neD (hu4 hr)) (de_cb lift_len cr_len (by rfl) m_len PySem.boot_len (da_cons (dv 0) da_nil)) (de_cb lift_len cr_len (by rfl) m_len PySem.boot_len (da_cons (dv 1) da_nil)) (nomark _)))))
      (dss_one (ds_ret de_bl))
      dss_nil)
      (dss_one (ds_ret (de_cmp lift_eq (op_eqD (hu4 hr)) (de_lc (own := [("k", 2)]) rfl sc__law_same.nd (DI.b (di_rng1 (by rfl) m_range (da_cons (de_cb lift_len cr_len (by rfl) m_len PySem.boot_len (da_cons (dv 1) da_nil)) da_nil))) (blkOk_by (by kernel_rfl)) (fun _ _ _ _ _ => (dg_name (i := 2) sc__law_same.nd rfl (by first | exact Or.inl rfl | exact Or.inr rfl))) gm_name (gw_name (by decide)) (fun _ _ _ _ _ => (dts_one (dt_not (dt_tru (de_call G__law_same (hr.mono (by decide)) (by rfl) (da_cons (de_ix lift_ix ix_seq (dv 0) (dv 2)) (da_cons (de_ix lift_ix ix_seq (dv 1) (dv 2)) da_nil))))))) (fun _ _ _ _ _ => (dv 2))) (de_lst da_nil) (nomark _)))))
      dss_nil)
      (dss_cons (ds_if (DW.dt (dw_or (dt_cmp lift_isN op_isN (dv 1) de_non (nomark _)) (dw_or1 (dt_cmp lift_isN op_isN (dv 0) de_non (nomark _)))))
      (dss_one (ds_ret (de_and (de_cmp lift_isN op_isN (dv 1) de_non (nomark _)) (de_one (de_cmp lift_isN op_isN (dv 0) de_non (nomark _))))))
      dss_nil)
      (dss_cons (ds_if (DW.dt (dw_or (dt_tru (de_isi (by rfl) m_isinstance (by rfl) m_bool PyProof.Rows.boot_bool kitT_bool (dv 1))) (dw_or1 (dt_tru (de_isi (by rfl) m_isinstance (by rfl) m_bool PyProof.Rows.boot_bool kitT_bool (dv 0))))))
      (dss_one (ds_ret (de_and (de_isi (by rfl) m_isinstance (by rfl) m_bool PyProof.Rows.boot_bool kitT_bool (dv 1)) (de_and (de_isi (by rfl) m_isinstance (by rfl) m_bool PyProof.Rows.boot_bool kitT_bool (dv 0)) (de_one (de_cmp lift_eq (op_eqD (hu4 hr)) (dv 0) (dv 1) (nomark _)))))))
      dss_nil)
      (dss_cons (ds_if (dt_tru (de_isi (by rfl) m_isinstance (by rfl) m_str PyProof.Rows.boot_str kitT_str (dv 1)))
      (dss_one (ds_ret (de_and (de_isi (by rfl) m_isinstance (by rfl) m_str PyProof.Rows.boot_str kitT_str (dv 0)) (de_one (de_cmp lift_eq (op_eqD (hu4 hr)) (dv 0) (dv 1) (nomark _))))))
      dss_nil)
      (dss_one (ds_ret (de_and (de_isi (by rfl) m_isinstance (by rfl) m_int PyProof.Rows.boot_int kitT_int (dv 0)) (de_one (de_cmp lift_eq (op_eqD (hu4 hr)) (dv 0) (dv 1) (nomark _)))))))))), ?_⟩
  exact fun ss x Q h => sem_sameB 0 _ (fun m h => by omega) ss x Q h
theorem ok__law_same_1 {f : Addr} {fd : FuncData} (F : Fun K "_law_same" "_law_same" s__law_same f fd) (hm : mg "_law_same" = some (.ref f)) (b : Binds K fd ["found", "due"] []) (m_bool : mg "bool" = none) (m_int : mg "int" = none) (m_isinstance : mg "isinstance" = none) (m_len : mg "len" = none) (m_range : mg "range" = none) (m_str : mg "str" = none) (m_tuple : mg "tuple" = none) (G__law_same : Fd P w K mg base "_law_same" 2 ["found", "due"] (sp_sameB 0)) : Fd P w K mg base "_law_same" 3 ["found", "due"] (sp_sameB 1) := by
  refine Fd.mk' F hm sc__law_same b (fun ss x Q h => by obtain ⟨_, _, rfl, _⟩ := h; rfl) fun cdv A outer s H E hr => ⟨_, _, (dss_cons (ds_if (dt_tru (de_isi (by rfl) m_isinstance (by rfl) m_tuple PyProof.Rows.boot_tuple kitT_tuple (dv 1)))
      (dss_cons (ds_if (DW.dt (dw_or (dt_not (dt_tru (de_isi (by rfl) m_isinstance (by rfl) m_tuple PyProof.Rows.boot_tuple kitT_tuple (dv 0)))) (dw_or1 (dt_cmp lift_ne (op_neD (hu4 hr)) (de_cb lift_len cr_len (by rfl) m_len PySem.boot_len (da_cons (dv 0) da_nil)) (de_cb lift_len cr_len (by rfl) m_len PySem.boot_len (da_cons (dv 1) da_nil)) (nomark _)))))
      (dss_one (ds_ret de_bl))
      dss_nil)
      (dss_one (ds_ret (de_cmp lift_eq (op_eqD (hu4 hr)) (de_lc (own := [("k", 2)]) rfl sc__law_same.nd (DI.b (di_rng1 (by rfl) m_range (da_cons (de_cb lift_len cr_len (by rfl) m_len PySem.boot_len (da_cons (dv 1) da_nil)) da_nil))) (blkOk_by (by kernel_rfl)) (fun _ _ _ _ _ => (dg_name (i := 2) sc__law_same.nd rfl (by first | exact Or.inl rfl | exact Or.inr rfl))) gm_name (gw_name (by decide)) (fun _ _ _ _ _ => (dts_one (dt_not (dt_tru (de_call G__law_same (hr.mono (by decide)) (by rfl) (da_cons (de_ix lift_ix ix_seq (dv 0) (dv 2)) (da_cons (de_ix lift_ix ix_seq (dv 1) (dv 2)) da_nil))))))) (fun _ _ _ _ _ => (dv 2))) (de_lst da_nil) (nomark _)))))
      dss_nil)
      (dss_cons (ds_if (DW.dt (dw_or (dt_cmp lift_isN op_isN (dv 1) de_non (nomark _)) (dw_or1 (dt_cmp lift_isN op_isN (dv 0) de_non (nomark _)))))
      (dss_one (ds_ret (de_and (de_cmp lift_isN op_isN (dv 1) de_non (nomark _)) (de_one (de_cmp lift_isN op_isN (dv 0) de_non (nomark _))))))
      dss_nil)
      (dss_cons (ds_if (DW.dt (dw_or (dt_tru (de_isi (by rfl) m_isinstance (by rfl) m_bool PyProof.Rows.boot_bool kitT_bool (dv 1))) (dw_or1 (dt_tru (de_isi (by rfl) m_isinstance (by rfl) m_bool PyProof.Rows.boot_bool kitT_bool (dv 0))))))
      (dss_one (ds_ret (de_and (de_isi (by rfl) m_isinstance (by rfl) m_bool PyProof.Rows.boot_bool kitT_bool (dv 1)) (de_and (de_isi (by rfl) m_isinstance (by rfl) m_bool PyProof.Rows.boot_bool kitT_bool (dv 0)) (de_one (de_cmp lift_eq (op_eqD (hu4 hr)) (dv 0) (dv 1) (nomark _)))))))
      dss_nil)
      (dss_cons (ds_if (dt_tru (de_isi (by rfl) m_isinstance (by rfl) m_str PyProof.Rows.boot_str kitT_str (dv 1)))
      (dss_one (ds_ret (de_and (de_isi (by rfl) m_isinstance (by rfl) m_str PyProof.Rows.boot_str kitT_str (dv 0)) (de_one (de_cmp lift_eq (op_eqD (hu4 hr)) (dv 0) (dv 1) (nomark _))))))
      dss_nil)
      (dss_one (ds_ret (de_and (de_isi (by rfl) m_isinstance (by rfl) m_int PyProof.Rows.boot_int kitT_int (dv 0)) (de_one (de_cmp lift_eq (op_eqD (hu4 hr)) (dv 0) (dv 1) (nomark _)))))))))), ?_⟩
  exact fun ss x Q h => sem_sameB 1 _ (fun m h => congrArg sp_sameB (Nat.succ.inj h)) ss x Q h
theorem ok__law_same_2 {f : Addr} {fd : FuncData} (F : Fun K "_law_same" "_law_same" s__law_same f fd) (hm : mg "_law_same" = some (.ref f)) (b : Binds K fd ["found", "due"] []) (m_bool : mg "bool" = none) (m_int : mg "int" = none) (m_isinstance : mg "isinstance" = none) (m_len : mg "len" = none) (m_range : mg "range" = none) (m_str : mg "str" = none) (m_tuple : mg "tuple" = none) (G__law_same : Fd P w K mg base "_law_same" 3 ["found", "due"] (sp_sameB 1)) : Fd P w K mg base "_law_same" 4 ["found", "due"] (sp_sameB 2) := by
  refine Fd.mk' F hm sc__law_same b (fun ss x Q h => by obtain ⟨_, _, rfl, _⟩ := h; rfl) fun cdv A outer s H E hr => ⟨_, _, (dss_cons (ds_if (dt_tru (de_isi (by rfl) m_isinstance (by rfl) m_tuple PyProof.Rows.boot_tuple kitT_tuple (dv 1)))
      (dss_cons (ds_if (DW.dt (dw_or (dt_not (dt_tru (de_isi (by rfl) m_isinstance (by rfl) m_tuple PyProof.Rows.boot_tuple kitT_tuple (dv 0)))) (dw_or1 (dt_cmp lift_ne (op_neD (hu4 hr)) (de_cb lift_len cr_len (by rfl) m_len PySem.boot_len (da_cons (dv 0) da_nil)) (de_cb lift_len cr_len (by rfl) m_len PySem.boot_len (da_cons (dv 1) da_nil)) (nomark _)))))
      (dss_one (ds_ret de_bl))
      dss_nil)
      (dss_one (ds_ret (de_cmp lift_eq (op_eqD (hu4 hr)) (de_lc (own := [("k", 2)]) rfl sc__law_same.nd (DI.b (di_rng1 (by rfl) m_range (da_cons (de_cb lift_len cr_len (by rfl) m_len PySem.boot_len (da_cons (dv 1) da_nil)) da_nil))) (blkOk_by (by kernel_rfl)) (fun _ _ _ _ _ => (dg_name (i := 2) sc__law_same.nd rfl (by first | exact Or.inl rfl | exact Or.inr rfl))) gm_name (gw_name (by decide)) (fun _ _ _ _ _ => (dts_one (dt_not (dt_tru (de_call G__law_same (hr.mono (by decide)) (by rfl) (da_cons (de_ix lift_ix ix_seq (dv 0) (dv 2)) (da_cons (de_ix lift_ix ix_seq (dv 1) (dv 2)) da_nil))))))) (fun _ _ _ _ _ => (dv 2))) (de_lst da_nil) (nomark _)))))
      dss_nil)
      (dss_cons (ds_if (DW.dt (dw_or (dt_cmp lift_isN op_isN (dv 1) de_non (nomark _)) (dw_or1 (dt_cmp lift_isN op_isN (dv 0) de_non (nomark _)))))
      (dss_one (ds_ret (de_and (de_cmp lift_isN op_isN (dv 1) de_non (nomark _)) (de_one (de_cmp lift_isN op_isN (dv 0) de_non (nomark _))))))
      dss_nil)
      (dss_cons (ds_if (DW.dt (dw_or (dt_tru (de_isi (by rfl) m_isinstance (by rfl) m_bool PyProof.Rows.boot_bool kitT_bool (dv 1))) (dw_or1 (dt_tru (de_isi (by rfl) m_isinstance (by rfl) m_bool PyProof.Rows.boot_bool kitT_bool (dv 0))))))
      (dss_one (ds_ret (de_and (de_isi (by rfl) m_isinstance (by rfl) m_bool PyProof.Rows.boot_bool kitT_bool (dv 1)) (de_and (de_isi (by rfl) m_isinstance (by rfl) m_bool PyProof.Rows.boot_bool kitT_bool (dv 0)) (de_one (de_cmp lift_eq (op_eqD (hu4 hr)) (dv 0) (dv 1) (nomark _)))))))
      dss_nil)
      (dss_cons (ds_if (dt_tru (de_isi (by rfl) m_isinstance (by rfl) m_str PyProof.Rows.boot_str kitT_str (dv 1)))
      (dss_one (ds_ret (de_and (de_isi (by rfl) m_isinstance (by rfl) m_str PyProof.Rows.boot_str kitT_str (dv 0)) (de_one (de_cmp lift_eq (op_eqD (hu4 hr)) (dv 0) (dv 1) (nomark _))))))
      dss_nil)
      (dss_one (ds_ret (de_and (de_isi (by rfl) m_isinstance (by rfl) m_int PyProof.Rows.boot_int kitT_int (dv 0)) (de_one (de_cmp lift_eq (op_eqD (hu4 hr)) (dv 0) (dv 1) (nomark _)))))))))), ?_⟩
  exact fun ss x Q h => sem_sameB 2 _ (fun m h => congrArg sp_sameB (Nat.succ.inj h)) ss x Q h
theorem sc_law : FnScope ["script", "flow", "many", "sets", "found", "k", "one", "least", "size", "greatest", "rest", "n"] ["script"] (defScope s_law) := ⟨rfl, rfl, rfl, by decide +kernel, rfl, by decide +kernel, by decide +kernel⟩
def spLawH (K : PySem.W.Frag) : Sp := fun vs H Q _ => ∃ (a : Addr) (ns : List Int), vs = [.ref a] ∧ SqL K H a (ns.map V.int) ∧ ns.length ≤ 1000 ∧ ∀ v H', v = .bl true → Q v H'
theorem ok_law {f f__law_flow : Addr} {fd fd__law_flow : FuncData} (F : Fun K "law" "law" s_law f fd) (m__law_flow : mg "_law_flow" = some (.ref f__law_flow)) (k__law_flow : PySem.W.keepIn K (.ref f__law_flow) = true) (b__law_flow : Binds K fd__law_flow ["script"] []) (G__law_flow : FnOk P w K mg base (L2.CX P w) 1 f__law_flow fd__law_flow ["script"] (spFlowH K)) (m_bool : mg "bool" = none) (m_int : mg "int" = none) (m_isinstance : mg "isinstance" = none) (m_len : mg "len" = none) (m_list : mg "list" = none) (m_max : mg "max" = none) (m_range : mg "range" = none) (m_sorted : mg "sorted" = none) (m_tuple : mg "tuple" = none) (G_are_lists : Fd P w K mg base "are_lists" 4 ["size", "least", "greatest"] spX_are_lists) (G__law_draw : Fd P w K mg base "_law_draw" 1 ["flow", "many"] sp__law_draw) (G__law_rest : Fd P w K mg base "_law_rest" 1 ["size", "sets"] sp__law_rest) (G__law_same : Fd P w K mg base "_law_same" 4 ["found", "due"] (sp_sameB 2)) (G_least_hitting : Fd P w K mg base "least_hitting" 3 ["sets"] spX_least_hitting) (GK_least_hitting : FdK P w K mg base "least_hitting" 3 ["sets"] spX_least_hitting) (G__law_least_of : Fd P w K mg base "_law_least_of" 1 ["sets"] sp46__law_least_of) (G__law_is_least : Fd P w K mg base "_law_is_least" 2 ["lot", "sets"] sp__law_is_least) (G__law_many_rows : Fd P w K mg base "_law_many_rows" 3 ["flow"] sp__law_many_rows) (G__law_drawn_sets : Fd P w K mg base "_law_drawn_sets" 3 ["flow", "numbers"] sp__law_drawn_sets) (G__law_mixed : Fd P w K mg base "_law_mixed" 2 ["flow", "some"] sp__law_mixed) (GN_are_lists : FdG P w K mg base "are_lists" 4 ["size", "least", "greatest"] ["greatest", "least", "size"] (g3v 2 1 0) (g3v 2 1 0) spX_are_lists) : FnOk P w K mg base (L2.CX P w) 5 f fd ["script"] (spLawH K) := by
  refine F.okX sc_law (fun vs H Q E h => ?_) (fun cdv A outer s H vs Q E hr h => ?_)
  · obtain ⟨_, _, rfl, _⟩ := h
    rfl
  obtain ⟨a, ns, rfl, hS, hlen, k⟩ := h
  refine mixed_goal (W := WF) (ps_set (i := 1) sc_law.nd rfl (by first | exact Or.inl rfl | exact Or.inr rfl) (pe_call G__law_flow (hr.mono (by decide)) (by rfl) m__law_flow k__law_flow b__law_flow .nil passL (pa_cons (pv 0) pa_nil))) (dss_cons (ds_set (i := 2) sc_law.nd rfl (by first | exact Or.inl rfl | exact Or.inr rfl) de_int)
      (dss_cons (ds_if (dt_cmp lift_eq (op_eqD (hu4 hr)) (de_call G__law_draw (hr.mono (by decide)) (by rfl) (da_cons (dv 1) (da_cons de_int da_nil))) de_int (nomark _))
      (dss_one (ds_asg (de_call G__law_many_rows (hr.mono (by decide)) (by rfl) (da_cons (dv 1) da_nil)) (dg_tup rfl (dgs_cons (dg_name (i := 3) sc_law.nd rfl (by first | exact Or.inl rfl | exact Or.inr rfl)) (dgs_cons (dg_name (i := 2) sc_law.nd rfl (by first | exact Or.inl rfl | exact Or.inr rfl)) dgs_nil)))))
      (dss_one (ds_set (i := 3) sc_law.nd rfl (by first | exact Or.inl rfl | exact Or.inr rfl) (de_call G__law_drawn_sets (hr.mono (by decide)) (by rfl) (da_cons (dv 1) (da_cons (de_cb lift_sorted (cr_sort (hu5 hr)) (by rfl) m_sorted PyProof.Rows.boot_sorted (da_cons (de_sl (de_call G__law_mixed (hr.mono (by decide)) (by rfl) (da_cons (dv 1) (da_cons (de_listRg rfl (by rfl) m_list (dr_1 (by rfl) m_range de_int)) da_nil))) do_none (do_some (de_op lift_plus op_plus de_int (de_call G__law_draw (hr.mono (by decide)) (by rfl) (da_cons (dv 1) (da_cons de_int da_nil)))))) da_nil)) da_nil))))))
      (dss_cons (ds_set (i := 4) sc_law.nd rfl (by first | exact Or.inl rfl | exact Or.inr rfl) (de_call G_least_hitting (hr.mono (by decide)) (by rfl) (da_cons (dv 3) da_nil)))
      (dss_cons (ds_if (DW.dt (dw_or (dt_not (dt_tru (de_isi (by rfl) m_isinstance (by rfl) m_tuple PyProof.Rows.boot_tuple kitT_tuple (dv 4)))) (dw_or1 (DW.dt (dw_and (dt_cmp (lift_I0 fun _ _ _ => .bl _) op_gt (dv 2) de_int (nomark _)) (dw_and1 (dt_cmp lift_ne (op_neD (hu4 hr)) (de_cb lift_len cr_len (by rfl) m_len PySem.boot_len (da_cons (dv 4) da_nil)) (dv 2) (nomark _))))))))
      (dss_one (ds_ret de_bl))
      dss_nil)
      (dss_cons (ds_for (passes_of rfl) rfl (di_rng1 (by rfl) m_range (da_cons (de_cb lift_len cr_len (by rfl) m_len PySem.boot_len (da_cons (dv 4) da_nil)) da_nil)) (dg_name (i := 5) sc_law.nd rfl (by first | exact Or.inl rfl | exact Or.inr rfl))
      (dss_cons (ds_set (i := 6) sc_law.nd rfl (by first | exact Or.inl rfl | exact Or.inr rfl) (de_ix lift_ix ix_seq (dv 4) (dv 5)))
      (dss_cons (ds_if (DW.dt (dw_or (dt_not (dt_tru (de_isi (by rfl) m_isinstance (by rfl) m_tuple PyProof.Rows.boot_tuple kitT_tuple (dv 6)))) (dw_or1 (dt_cmp lift_ne (op_neD (hu4 hr)) (de_lc (own := [("n", 11)]) rfl sc_law.nd (db_seq (dv 6)) (blkOk_by (by kernel_rfl)) (fun _ _ _ _ _ => (dg_name (i := 11) sc_law.nd rfl (by first | exact Or.inl rfl | exact Or.inr rfl))) gm_name (gw_name (by decide)) (fun _ _ _ _ _ => (dts_one (DW.dt (dw_or (dt_not (dt_tru (de_isi (by rfl) m_isinstance (by rfl) m_int PyProof.Rows.boot_int kitT_int (dv 11)))) (dw_or1 (dt_tru (de_isi (by rfl) m_isinstance (by rfl) m_bool PyProof.Rows.boot_bool kitT_bool (dv 11)))))))) (fun _ _ _ _ _ => (dv 11))) (de_lst da_nil) (nomark _)))))
      (dss_one (ds_ret de_bl))
      dss_nil)
      (dss_one (ds_if (DW.dt (dw_or (dt_cmp lift_ne (op_neD (hu4 hr)) (de_ct lift_list cr_list (by rfl) m_list PyProof.Rows.boot_list (da_cons (dv 6) da_nil)) (de_cb lift_sorted (cr_sort (hu5 hr)) (by rfl) m_sorted PyProof.Rows.boot_sorted (da_cons (dv 6) da_nil)) (nomark _)) (dw_or (dt_not (dt_tru (de_call G__law_is_least (hr.mono (by decide)) (by rfl) (da_cons (dv 6) (da_cons (dv 3) da_nil))))) (dw_or1 (DW.dt (dw_and (dt_cmp (lift_I0 fun _ _ _ => .bl _) op_gt (dv 5) de_int (nomark _)) (dw_and1 (dt_cmp lift_geT (op_geT (hu0 hr)) (de_ix lift_ix ix_seq (dv 4) (de_op (lift_I0 fun _ _ _ => .int _) op_sub (dv 5) de_int)) (dv 6) (nomark _)))))))))
      (dss_one (ds_ret de_bl))
      dss_nil)))))
      (dss_cons (ds_set (i := 7) sc_law.nd rfl (by first | exact Or.inl rfl | exact Or.inr rfl) (de_ct lift_tuple cr_tuple (by rfl) m_tuple PyProof.Rows.boot_tuple (da_cons (de_call G__law_least_of (hr.mono (by decide)) (by rfl) (da_cons (dv 3) da_nil)) da_nil)))
      (dss_cons (ds_if (dt_not (dt_tru (de_call G__law_same (hr.mono (by decide)) (by rfl) (da_cons (de_call1k GK_least_hitting (hr.mono (by decide)) (by rfl) (dv 4) (fun f fd hm hk kb G ape => pe_callKW0 G (hr.mono (by decide)) (by rfl) hm hk kb passL (pk_cons ape pk_nil))) (da_cons (dv 7) da_nil)))))
      (dss_one (ds_ret de_bl))
      dss_nil)
      (dss_cons (ds_set (i := 8) sc_law.nd rfl (by first | exact Or.inl rfl | exact Or.inr rfl) (de_cb lift_max (cr_max rfl) (by rfl) m_max PyProof.Rows.boot_max (da_cons (de_op lift_plus op_plus (de_lst (da_cons de_int da_nil)) (de_lc (own := [("one", 6)]) rfl sc_law.nd (db_seq (dv 7)) (blkOk_by (by kernel_rfl)) (fun _ _ _ _ _ => (dg_name (i := 6) sc_law.nd rfl (by first | exact Or.inl rfl | exact Or.inr rfl))) gm_name (gw_name (by decide)) (fun _ _ _ _ _ => (dts_one (dt_cmp lift_ne (op_neD (hu4 hr)) (dv 6) (de_tup da_nil) (nomark _)))) (fun _ _ _ _ _ => (de_op lift_plus op_plus (de_ix lift_ix ix_seq (dv 6) (de_neg de_int)) de_int)))) da_nil)))
      (dss_cons (ds_set (i := 9) sc_law.nd rfl (by first | exact Or.inl rfl | exact Or.inr rfl) (de_call G__law_rest (hr.mono (by decide)) (by rfl) (da_cons (dv 8) (da_cons (dv 4) da_nil))))
      (dss_cons (ds_if (DW.dt (dw_or (dt_cmp lift_notB op_isnot_bl (de_call G_are_lists (hr.mono (by decide)) (by rfl) (da_cons (dv 8) (da_cons (dv 7) (da_cons (dv 9) da_nil)))) de_bl (nomark _)) (dw_or1 (dt_cmp lift_notB op_isnot_bl (de_callN (g3v 2 1 0 []) GN_are_lists (hr.mono (by decide)) (by rfl) (dk_cons (dv 9) (dk_cons (dv 7) (dk_cons (dv 8) dk_nil))) (fun f fd hm hk kb G ape => pe_callKW0 G (hr.mono (by decide)) (by rfl) hm hk kb passL ape) (fun Z G H vs ss h => svs_g3 Z G H vs ss h)) de_bl (nomark _)))))
      (dss_one (ds_ret de_bl))
      dss_nil)
      (dss_cons (ds_if (dt_cmp (lift_I0 fun _ _ _ => .bl _) op_gt (de_cb lift_len cr_len (by rfl) m_len PySem.boot_len (da_cons (dv 4) da_nil)) de_int (nomark _))
      (dss_cons (ds_set (i := 5) sc_law.nd rfl (by first | exact Or.inl rfl | exact Or.inr rfl) (de_call G__law_draw (hr.mono (by decide)) (by rfl) (da_cons (dv 1) (da_cons (de_cb lift_len cr_len (by rfl) m_len PySem.boot_len (da_cons (dv 4) da_nil)) da_nil))))
      (dss_cons (ds_set (i := 10) sc_law.nd rfl (by first | exact Or.inl rfl | exact Or.inr rfl) (de_op lift_plus op_plus (de_sl (dv 9) do_none (do_some (dv 5))) (de_sl (dv 9) (do_some (de_op lift_plus op_plus (dv 5) de_int)) do_none)))
      (dss_cons (ds_if (DW.dt (dw_and (dt_cmp lift_ne (op_neD (hu4 hr)) (de_ix lift_ix ix_seq (dv 9) (dv 5)) (de_tup da_nil) (nomark _)) (dw_and1 (dt_cmp lift_notB op_isnot_bl (de_call G_are_lists (hr.mono (by decide)) (by rfl) (da_cons (dv 8) (da_cons (dv 7) (da_cons (de_ct lift_tuple cr_tuple (by rfl) m_tuple PyProof.Rows.boot_tuple (da_cons (de_cb lift_sortRS (cr_sortC (hu5 hr)) (by rfl) m_sorted PyProof.Rows.boot_sorted (da_cons (de_op lift_plus op_plus (dv 10) (de_tup (da_cons (de_sl (de_ix lift_ix ix_seq (dv 9) (dv 5)) (do_some de_int) do_none) da_nil))) da_nil)) da_nil)) da_nil)))) de_bl (nomark _)))))
      (dss_one (ds_ret de_bl))
      dss_nil)
      (dss_one (ds_ret (de_cmp lift_isB op_isBl (de_call G_are_lists (hr.mono (by decide)) (by rfl) (da_cons (dv 8) (da_cons (dv 7) (da_cons (dv 10) da_nil)))) de_bl (nomark _)))))))
      dss_nil)
      (dss_one (ds_ret (de_cmp lift_isB op_isBl (de_call G_are_lists (hr.mono (by decide)) (by rfl) (da_cons (dv 8) (da_cons (dv 7) (da_cons (de_tup (da_cons (de_tup da_nil) da_nil)) da_nil)))) de_bl (nomark _))))))))))))))) fun sem => ?_
  refine ⟨.ref a, rfl, a, ns, rfl, hS, hlen, fun fl g c H' n1 n2 n3 grow hF => ?_⟩
  exact law_rest (n := 10) sem n1 n2 n3 grow hF (fun x Q q => sem_lawK x Q q none) k
end
theorem all_mk {l : PySem.W.OpenLaw} {w : World} {K : PySem.W.Frag} {h : Heap} {mg : Str → Option Value} {fa : Addr} (X : K.In h) (G : h.Ns mainGlobals mg) (hfa : mg "law" = some (.ref fa))
    {f0 : Addr} {od0 an0 : Option Addr} {sl0 : Array (Option Value)} {oc0 kV0 dc0 pm0 cd0 ct0 : Value}
    (a0 : PySem.W.nsIn K mainGlobals "_mask" = some (some (.ref f0))) (l0 : K.lookup f0 = some ⟨oc0, od0, .func (PySem.W.fnOf "_mask" "_mask" (defArgs s__mask) (defBody s__mask) (defScope s__mask) .none kV0 dc0 pm0 an0 cd0 ct0), sl0⟩) (c0 : PySem.W.codeIn K cd0 "_mask" = true) (k0 : PySem.W.keepIn K (.ref f0) = true)
    {f1 : Addr} {od1 an1 : Option Addr} {sl1 : Array (Option Value)} {oc1 kV1 dc1 pm1 cd1 ct1 : Value}
    (a1 : PySem.W.nsIn K mainGlobals "_numbers" = some (some (.ref f1))) (l1 : K.lookup f1 = some ⟨oc1, od1, .func (PySem.W.fnOf "_numbers" "_numbers" (defArgs s__numbers) (defBody s__numbers) (defScope s__numbers) .none kV1 dc1 pm1 an1 cd1 ct1), sl1⟩) (c1 : PySem.W.codeIn K cd1 "_numbers" = true) (k1 : PySem.W.keepIn K (.ref f1) = true)
    {f2 : Addr} {od2 an2 : Option Addr} {sl2 : Array (Option Value)} {oc2 kV2 dc2 pm2 cd2 ct2 : Value}
    (a2 : PySem.W.nsIn K mainGlobals "_families_without" = some (some (.ref f2))) (l2 : K.lookup f2 = some ⟨oc2, od2, .func (PySem.W.fnOf "_families_without" "_families_without" (defArgs s__families_without) (defBody s__families_without) (defScope s__families_without) .none kV2 dc2 pm2 an2 cd2 ct2), sl2⟩) (c2 : PySem.W.codeIn K cd2 "_families_without" = true) (k2 : PySem.W.keepIn K (.ref f2) = true)
    {f3 : Addr} {od3 an3 : Option Addr} {sl3 : Array (Option Value)} {oc3 kV3 dc3 pm3 cd3 ct3 : Value}
    (a3 : PySem.W.nsIn K mainGlobals "_one_more" = some (some (.ref f3))) (l3 : K.lookup f3 = some ⟨oc3, od3, .func (PySem.W.fnOf "_one_more" "_one_more" (defArgs s__one_more) (defBody s__one_more) (defScope s__one_more) .none kV3 dc3 pm3 an3 cd3 ct3), sl3⟩) (c3 : PySem.W.codeIn K cd3 "_one_more" = true) (k3 : PySem.W.keepIn K (.ref f3) = true)
    {f4 : Addr} {od4 an4 : Option Addr} {sl4 : Array (Option Value)} {oc4 kV4 dc4 pm4 cd4 ct4 : Value}
    (a4 : PySem.W.nsIn K mainGlobals "_holding" = some (some (.ref f4))) (l4 : K.lookup f4 = some ⟨oc4, od4, .func (PySem.W.fnOf "_holding" "_holding" (defArgs s__holding) (defBody s__holding) (defScope s__holding) .none kV4 dc4 pm4 an4 cd4 ct4), sl4⟩) (c4 : PySem.W.codeIn K cd4 "_holding" = true) (k4 : PySem.W.keepIn K (.ref f4) = true)
    {f5 : Addr} {od5 an5 : Option Addr} {sl5 : Array (Option Value)} {oc5 kV5 dc5 pm5 cd5 ct5 : Value}
    (a5 : PySem.W.nsIn K mainGlobals "_within" = some (some (.ref f5))) (l5 : K.lookup f5 = some ⟨oc5, od5, .func (PySem.W.fnOf "_within" "_within" (defArgs s__within) (defBody s__within) (defScope s__within) .none kV5 dc5 pm5 an5 cd5 ct5), sl5⟩) (c5 : PySem.W.codeIn K cd5 "_within" = true) (k5 : PySem.W.keepIn K (.ref f5) = true)
    {f6 : Addr} {od6 an6 : Option Addr} {sl6 : Array (Option Value)} {oc6 kV6 dc6 pm6 cd6 ct6 : Value}
    (a6 : PySem.W.nsIn K mainGlobals "_members" = some (some (.ref f6))) (l6 : K.lookup f6 = some ⟨oc6, od6, .func (PySem.W.fnOf "_members" "_members" (defArgs s__members) (defBody s__members) (defScope s__members) .none kV6 dc6 pm6 an6 cd6 ct6), sl6⟩) (c6 : PySem.W.codeIn K cd6 "_members" = true) (k6 : PySem.W.keepIn K (.ref f6) = true)
    {f7 : Addr} {od7 an7 : Option Addr} {sl7 : Array (Option Value)} {oc7 kV7 dc7 pm7 cd7 ct7 : Value}
    (a7 : PySem.W.nsIn K mainGlobals "least_hitting" = some (some (.ref f7))) (l7 : K.lookup f7 = some ⟨oc7, od7, .func (PySem.W.fnOf "least_hitting" "least_hitting" (defArgs s_least_hitting) (defBody s_least_hitting) (defScope s_least_hitting) .none kV7 dc7 pm7 an7 cd7 ct7), sl7⟩) (c7 : PySem.W.codeIn K cd7 "least_hitting" = true) (k7 : PySem.W.keepIn K (.ref f7) = true)
    {f8 : Addr} {od8 an8 : Option Addr} {sl8 : Array (Option Value)} {oc8 kV8 dc8 pm8 cd8 ct8 : Value}
    (a8 : PySem.W.nsIn K mainGlobals "_are_apart" = some (some (.ref f8))) (l8 : K.lookup f8 = some ⟨oc8, od8, .func (PySem.W.fnOf "_are_apart" "_are_apart" (defArgs s__are_apart) (defBody s__are_apart) (defScope s__are_apart) .none kV8 dc8 pm8 an8 cd8 ct8), sl8⟩) (c8 : PySem.W.codeIn K cd8 "_are_apart" = true) (k8 : PySem.W.keepIn K (.ref f8) = true)
    {f9 : Addr} {od9 an9 : Option Addr} {sl9 : Array (Option Value)} {oc9 kV9 dc9 pm9 cd9 ct9 : Value}
    (a9 : PySem.W.nsIn K mainGlobals "are_lists" = some (some (.ref f9))) (l9 : K.lookup f9 = some ⟨oc9, od9, .func (PySem.W.fnOf "are_lists" "are_lists" (defArgs s_are_lists) (defBody s_are_lists) (defScope s_are_lists) .none kV9 dc9 pm9 an9 cd9 ct9), sl9⟩) (c9 : PySem.W.codeIn K cd9 "are_lists" = true) (k9 : PySem.W.keepIn K (.ref f9) = true)
    {f10 : Addr} {od10 an10 : Option Addr} {sl10 : Array (Option Value)} {oc10 kV10 dc10 pm10 cd10 ct10 : Value}
    (a10 : PySem.W.nsIn K mainGlobals "_law_flow" = some (some (.ref f10))) (l10 : K.lookup f10 = some ⟨oc10, od10, .func (PySem.W.fnOf "_law_flow" "_law_flow" (defArgs s__law_flow) (defBody s__law_flow) (defScope s__law_flow) .none kV10 dc10 pm10 an10 cd10 ct10), sl10⟩) (c10 : PySem.W.codeIn K cd10 "_law_flow" = true) (k10 : PySem.W.keepIn K (.ref f10) = true)
    {f11 : Addr} {od11 an11 : Option Addr} {sl11 : Array (Option Value)} {oc11 kV11 dc11 pm11 cd11 ct11 : Value}
    (a11 : PySem.W.nsIn K mainGlobals "_law_draw" = some (some (.ref f11))) (l11 : K.lookup f11 = some ⟨oc11, od11, .func (PySem.W.fnOf "_law_draw" "_law_draw" (defArgs s__law_draw) (defBody s__law_draw) (defScope s__law_draw) .none kV11 dc11 pm11 an11 cd11 ct11), sl11⟩) (c11 : PySem.W.codeIn K cd11 "_law_draw" = true) (k11 : PySem.W.keepIn K (.ref f11) = true)
    {f12 : Addr} {od12 an12 : Option Addr} {sl12 : Array (Option Value)} {oc12 kV12 dc12 pm12 cd12 ct12 : Value}
    (a12 : PySem.W.nsIn K mainGlobals "_law_pick" = some (some (.ref f12))) (l12 : K.lookup f12 = some ⟨oc12, od12, .func (PySem.W.fnOf "_law_pick" "_law_pick" (defArgs s__law_pick) (defBody s__law_pick) (defScope s__law_pick) .none kV12 dc12 pm12 an12 cd12 ct12), sl12⟩) (c12 : PySem.W.codeIn K cd12 "_law_pick" = true) (k12 : PySem.W.keepIn K (.ref f12) = true)
    {f13 : Addr} {od13 an13 : Option Addr} {sl13 : Array (Option Value)} {oc13 kV13 dc13 pm13 cd13 ct13 : Value}
    (a13 : PySem.W.nsIn K mainGlobals "_law_mixed" = some (some (.ref f13))) (l13 : K.lookup f13 = some ⟨oc13, od13, .func (PySem.W.fnOf "_law_mixed" "_law_mixed" (defArgs s__law_mixed) (defBody s__law_mixed) (defScope s__law_mixed) .none kV13 dc13 pm13 an13 cd13 ct13), sl13⟩) (c13 : PySem.W.codeIn K cd13 "_law_mixed" = true) (k13 : PySem.W.keepIn K (.ref f13) = true)
    {f14 : Addr} {od14 an14 : Option Addr} {sl14 : Array (Option Value)} {oc14 kV14 dc14 pm14 cd14 ct14 : Value}
    (a14 : PySem.W.nsIn K mainGlobals "_law_same" = some (some (.ref f14))) (l14 : K.lookup f14 = some ⟨oc14, od14, .func (PySem.W.fnOf "_law_same" "_law_same" (defArgs s__law_same) (defBody s__law_same) (defScope s__law_same) .none kV14 dc14 pm14 an14 cd14 ct14), sl14⟩) (c14 : PySem.W.codeIn K cd14 "_law_same" = true) (k14 : PySem.W.keepIn K (.ref f14) = true)
    {f15 : Addr} {od15 an15 : Option Addr} {sl15 : Array (Option Value)} {oc15 kV15 dc15 pm15 cd15 ct15 : Value}
    (a15 : PySem.W.nsIn K mainGlobals "_law_subsets" = some (some (.ref f15))) (l15 : K.lookup f15 = some ⟨oc15, od15, .func (PySem.W.fnOf "_law_subsets" "_law_subsets" (defArgs s__law_subsets) (defBody s__law_subsets) (defScope s__law_subsets) .none kV15 dc15 pm15 an15 cd15 ct15), sl15⟩) (c15 : PySem.W.codeIn K cd15 "_law_subsets" = true) (k15 : PySem.W.keepIn K (.ref f15) = true)
    {f16 : Addr} {od16 an16 : Option Addr} {sl16 : Array (Option Value)} {oc16 kV16 dc16 pm16 cd16 ct16 : Value}
    (a16 : PySem.W.nsIn K mainGlobals "_law_least_of" = some (some (.ref f16))) (l16 : K.lookup f16 = some ⟨oc16, od16, .func (PySem.W.fnOf "_law_least_of" "_law_least_of" (defArgs s__law_least_of) (defBody s__law_least_of) (defScope s__law_least_of) .none kV16 dc16 pm16 an16 cd16 ct16), sl16⟩) (c16 : PySem.W.codeIn K cd16 "_law_least_of" = true) (k16 : PySem.W.keepIn K (.ref f16) = true)
    {f17 : Addr} {od17 an17 : Option Addr} {sl17 : Array (Option Value)} {oc17 kV17 dc17 pm17 cd17 ct17 : Value}
    (a17 : PySem.W.nsIn K mainGlobals "_law_hits" = some (some (.ref f17))) (l17 : K.lookup f17 = some ⟨oc17, od17, .func (PySem.W.fnOf "_law_hits" "_law_hits" (defArgs s__law_hits) (defBody s__law_hits) (defScope s__law_hits) .none kV17 dc17 pm17 an17 cd17 ct17), sl17⟩) (c17 : PySem.W.codeIn K cd17 "_law_hits" = true) (k17 : PySem.W.keepIn K (.ref f17) = true)
    {f18 : Addr} {od18 an18 : Option Addr} {sl18 : Array (Option Value)} {oc18 kV18 dc18 pm18 cd18 ct18 : Value}
    (a18 : PySem.W.nsIn K mainGlobals "_law_drawn_sets" = some (some (.ref f18))) (l18 : K.lookup f18 = some ⟨oc18, od18, .func (PySem.W.fnOf "_law_drawn_sets" "_law_drawn_sets" (defArgs s__law_drawn_sets) (defBody s__law_drawn_sets) (defScope s__law_drawn_sets) .none kV18 dc18 pm18 an18 cd18 ct18), sl18⟩) (c18 : PySem.W.codeIn K cd18 "_law_drawn_sets" = true) (k18 : PySem.W.keepIn K (.ref f18) = true)
    {f19 : Addr} {od19 an19 : Option Addr} {sl19 : Array (Option Value)} {oc19 kV19 dc19 pm19 cd19 ct19 : Value}
    (a19 : PySem.W.nsIn K mainGlobals "_law_is_least" = some (some (.ref f19))) (l19 : K.lookup f19 = some ⟨oc19, od19, .func (PySem.W.fnOf "_law_is_least" "_law_is_least" (defArgs s__law_is_least) (defBody s__law_is_least) (defScope s__law_is_least) .none kV19 dc19 pm19 an19 cd19 ct19), sl19⟩) (c19 : PySem.W.codeIn K cd19 "_law_is_least" = true) (k19 : PySem.W.keepIn K (.ref f19) = true)
    {f20 : Addr} {od20 an20 : Option Addr} {sl20 : Array (Option Value)} {oc20 kV20 dc20 pm20 cd20 ct20 : Value}
    (a20 : PySem.W.nsIn K mainGlobals "_law_lot_of_rows" = some (some (.ref f20))) (l20 : K.lookup f20 = some ⟨oc20, od20, .func (PySem.W.fnOf "_law_lot_of_rows" "_law_lot_of_rows" (defArgs s__law_lot_of_rows) (defBody s__law_lot_of_rows) (defScope s__law_lot_of_rows) .none kV20 dc20 pm20 an20 cd20 ct20), sl20⟩) (c20 : PySem.W.codeIn K cd20 "_law_lot_of_rows" = true) (k20 : PySem.W.keepIn K (.ref f20) = true)
    {f21 : Addr} {od21 an21 : Option Addr} {sl21 : Array (Option Value)} {oc21 kV21 dc21 pm21 cd21 ct21 : Value}
    (a21 : PySem.W.nsIn K mainGlobals "_law_many_rows" = some (some (.ref f21))) (l21 : K.lookup f21 = some ⟨oc21, od21, .func (PySem.W.fnOf "_law_many_rows" "_law_many_rows" (defArgs s__law_many_rows) (defBody s__law_many_rows) (defScope s__law_many_rows) .none kV21 dc21 pm21 an21 cd21 ct21), sl21⟩) (c21 : PySem.W.codeIn K cd21 "_law_many_rows" = true) (k21 : PySem.W.keepIn K (.ref f21) = true)
    {f22 : Addr} {od22 an22 : Option Addr} {sl22 : Array (Option Value)} {oc22 kV22 dc22 pm22 cd22 ct22 : Value}
    (a22 : PySem.W.nsIn K mainGlobals "_law_rest" = some (some (.ref f22))) (l22 : K.lookup f22 = some ⟨oc22, od22, .func (PySem.W.fnOf "_law_rest" "_law_rest" (defArgs s__law_rest) (defBody s__law_rest) (defScope s__law_rest) .none kV22 dc22 pm22 an22 cd22 ct22), sl22⟩) (c22 : PySem.W.codeIn K cd22 "_law_rest" = true) (k22 : PySem.W.keepIn K (.ref f22) = true)
    {f23 : Addr} {od23 an23 : Option Addr} {sl23 : Array (Option Value)} {oc23 kV23 dc23 pm23 cd23 ct23 : Value}
    (a23 : PySem.W.nsIn K mainGlobals "law" = some (some (.ref f23))) (l23 : K.lookup f23 = some ⟨oc23, od23, .func (PySem.W.fnOf "law" "law" (defArgs s_law) (defBody s_law) (defScope s_law) .none kV23 dc23 pm23 an23 cd23 ct23), sl23⟩) (c23 : PySem.W.codeIn K cd23 "law" = true) (k23 : PySem.W.keepIn K (.ref f23) = true)
    (z0 : PySem.W.nsIn K mainGlobals "abs" = some none)
    (z1 : PySem.W.nsIn K mainGlobals "bool" = some none)
    (z2 : PySem.W.nsIn K mainGlobals "int" = some none)
    (z3 : PySem.W.nsIn K mainGlobals "isinstance" = some none)
    (z4 : PySem.W.nsIn K mainGlobals "len" = some none)
    (z5 : PySem.W.nsIn K mainGlobals "list" = some none)
    (z6 : PySem.W.nsIn K mainGlobals "max" = some none)
    (z7 : PySem.W.nsIn K mainGlobals "range" = some none)
    (z8 : PySem.W.nsIn K mainGlobals "set" = some none)
    (z9 : PySem.W.nsIn K mainGlobals "sorted" = some none)
    (z10 : PySem.W.nsIn K mainGlobals "str" = some none)
    (z11 : PySem.W.nsIn K mainGlobals "sum" = some none)
    (z12 : PySem.W.nsIn K mainGlobals "tuple" = some none)
    {t_MOST : Tok} (n_MOST : PySem.W.nsIn K mainGlobals "MOST" = some (some (.int 2000 t_MOST)))
    {C : Addr}
    (e_C : PySem.W.nsIn K mainGlobals "TooMany" = some (some (.ref C)))
    (e_hs : PySem.W.subIn K (.ref C) (.type "BaseException") = some true)
    (e_q : PySem.W.excIn K C veB "ValueError.__new__" = true)
    (e_kp : PySem.W.keepIn K (.ref C) = true)
    (e_ty : PySem.W.typeIn K (.ref C) = some (.type "type"))
    : ∃ fd : FuncData, (∀ (s : Shared) (v : Value), BindsTo s fd ⟨[v], []⟩ [("script", v)]) ∧ ∀ base : Heap, K.In base → base.Ns mainGlobals mg → FnOk l.prog w K mg base (L2.CX l.prog w) 5 fa fd ["script"] (spLawH K) := by
  have e := hfa.symm.trans (PySem.W.mg_of X G a23)
  cases e
  have F0 := fun_mk (st := s__mask) l0 c0 k0
  have M0 := PySem.W.mg_of X G a0
  have B0 := F0.binds (ps := ["numbers"]) fun _ _ _ _ _ _ us hl => match us, hl with | [_], _ => rfl
  have F1 := fun_mk (st := s__numbers) l1 c1 k1
  have M1 := PySem.W.mg_of X G a1
  have B1 := F1.binds (ps := ["mask"]) fun _ _ _ _ _ _ us hl => match us, hl with | [_], _ => rfl
  have F2 := fun_mk (st := s__families_without) l2 c2 k2
  have M2 := PySem.W.mg_of X G a2
  have B2 := F2.binds (ps := ["size"]) fun _ _ _ _ _ _ us hl => match us, hl with | [_], _ => rfl
  have F3 := fun_mk (st := s__one_more) l3 c3 k3
  have M3 := PySem.W.mg_of X G a3
  have B3 := F3.binds (ps := ["without", "family"]) fun _ _ _ _ _ _ us hl => match us, hl with | [_, _], _ => rfl
  have F4 := fun_mk (st := s__holding) l4 c4 k4
  have M4 := PySem.W.mg_of X G a4
  have B4 := F4.binds (ps := ["without", "family"]) fun _ _ _ _ _ _ us hl => match us, hl with | [_, _], _ => rfl
  have F5 := fun_mk (st := s__within) l5 c5 k5
  have M5 := PySem.W.mg_of X G a5
  have B5 := F5.binds (ps := ["without", "family"]) fun _ _ _ _ _ _ us hl => match us, hl with | [_, _], _ => rfl
  have F6 := fun_mk (st := s__members) l6 c6 k6
  have M6 := PySem.W.mg_of X G a6
  have B6 := F6.binds (ps := ["family"]) fun _ _ _ _ _ _ us hl => match us, hl with | [_], _ => rfl
  have F7 := fun_mk (st := s_least_hitting) l7 c7 k7
  have M7 := PySem.W.mg_of X G a7
  have B7 := F7.binds (ps := ["sets"]) fun _ _ _ _ _ _ us hl => match us, hl with | [_], _ => rfl
  have F8 := fun_mk (st := s__are_apart) l8 c8 k8
  have M8 := PySem.W.mg_of X G a8
  have B8 := F8.binds (ps := ["size", "sets"]) fun _ _ _ _ _ _ us hl => match us, hl with | [_, _], _ => rfl
  have F9 := fun_mk (st := s_are_lists) l9 c9 k9
  have M9 := PySem.W.mg_of X G a9
  have B9 := F9.binds (ps := ["size", "least", "greatest"]) fun _ _ _ _ _ _ us hl => match us, hl with | [_, _, _], _ => rfl
  have F10 := fun_mk (st := s__law_flow) l10 c10 k10
  have M10 := PySem.W.mg_of X G a10
  have B10 := F10.binds (ps := ["script"]) fun _ _ _ _ _ _ us hl => match us, hl with | [_], _ => rfl
  have F11 := fun_mk (st := s__law_draw) l11 c11 k11
  have M11 := PySem.W.mg_of X G a11
  have B11 := F11.binds (ps := ["flow", "many"]) fun _ _ _ _ _ _ us hl => match us, hl with | [_, _], _ => rfl
  have F12 := fun_mk (st := s__law_pick) l12 c12 k12
  have M12 := PySem.W.mg_of X G a12
  have B12 := F12.binds (ps := ["flow", "some"]) fun _ _ _ _ _ _ us hl => match us, hl with | [_, _], _ => rfl
  have F13 := fun_mk (st := s__law_mixed) l13 c13 k13
  have M13 := PySem.W.mg_of X G a13
  have B13 := F13.binds (ps := ["flow", "some"]) fun _ _ _ _ _ _ us hl => match us, hl with | [_, _], _ => rfl
  have F14 := fun_mk (st := s__law_same) l14 c14 k14
  have M14 := PySem.W.mg_of X G a14
  have B14 := F14.binds (ps := ["found", "due"]) fun _ _ _ _ _ _ us hl => match us, hl with | [_, _], _ => rfl
  have F15 := fun_mk (st := s__law_subsets) l15 c15 k15
  have M15 := PySem.W.mg_of X G a15
  have B15 := F15.binds (ps := ["some"]) fun _ _ _ _ _ _ us hl => match us, hl with | [_], _ => rfl
  have F16 := fun_mk (st := s__law_least_of) l16 c16 k16
  have M16 := PySem.W.mg_of X G a16
  have B16 := F16.binds (ps := ["sets"]) fun _ _ _ _ _ _ us hl => match us, hl with | [_], _ => rfl
  have F17 := fun_mk (st := s__law_hits) l17 c17 k17
  have M17 := PySem.W.mg_of X G a17
  have B17 := F17.binds (ps := ["lot", "sets"]) fun _ _ _ _ _ _ us hl => match us, hl with | [_, _], _ => rfl
  have F18 := fun_mk (st := s__law_drawn_sets) l18 c18 k18
  have M18 := PySem.W.mg_of X G a18
  have B18 := F18.binds (ps := ["flow", "numbers"]) fun _ _ _ _ _ _ us hl => match us, hl with | [_, _], _ => rfl
  have F19 := fun_mk (st := s__law_is_least) l19 c19 k19
  have M19 := PySem.W.mg_of X G a19
  have B19 := F19.binds (ps := ["lot", "sets"]) fun _ _ _ _ _ _ us hl => match us, hl with | [_, _], _ => rfl
  have F20 := fun_mk (st := s__law_lot_of_rows) l20 c20 k20
  have M20 := PySem.W.mg_of X G a20
  have B20 := F20.binds (ps := ["flow", "numbers"]) fun _ _ _ _ _ _ us hl => match us, hl with | [_, _], _ => rfl
  have F21 := fun_mk (st := s__law_many_rows) l21 c21 k21
  have M21 := PySem.W.mg_of X G a21
  have B21 := F21.binds (ps := ["flow"]) fun _ _ _ _ _ _ us hl => match us, hl with | [_], _ => rfl
  have F22 := fun_mk (st := s__law_rest) l22 c22 k22
  have M22 := PySem.W.mg_of X G a22
  have B22 := F22.binds (ps := ["size", "sets"]) fun _ _ _ _ _ _ us hl => match us, hl with | [_, _], _ => rfl
  have F23 := fun_mk (st := s_law) l23 c23 k23
  have M23 := PySem.W.mg_of X G a23
  have B23 := F23.binds (ps := ["script"]) fun _ _ _ _ _ _ us hl => match us, hl with | [_], _ => rfl
  have Z_abs := PySem.W.mg_none_of X G z0
  have Z_bool := PySem.W.mg_none_of X G z1
  have Z_int := PySem.W.mg_none_of X G z2
  have Z_isinstance := PySem.W.mg_none_of X G z3
  have Z_len := PySem.W.mg_none_of X G z4
  have Z_list := PySem.W.mg_none_of X G z5
  have Z_max := PySem.W.mg_none_of X G z6
  have Z_range := PySem.W.mg_none_of X G z7
  have Z_set := PySem.W.mg_none_of X G z8
  have Z_sorted := PySem.W.mg_none_of X G z9
  have Z_str := PySem.W.mg_none_of X G z10
  have Z_sum := PySem.W.mg_none_of X G z11
  have Z_tuple := PySem.W.mg_none_of X G z12
  have C_MOST := PySem.W.mg_of X G n_MOST
  have g_TooMany := PySem.W.mg_of X G e_C
  have T_TooMany : ExcO K C := ⟨e_q, e_kp, e_hs, e_ty⟩
  have KB_least_hitting : KBinds K (PySem.W.fnOf "least_hitting" "least_hitting" (defArgs s_least_hitting) (defBody s_least_hitting) (defScope s_least_hitting) .none kV7 dc7 pm7 an7 cd7 ct7) ["sets"] ["sets"] (fun us ws => us ++ ws) (fun vs zs => vs ++ zs) := ⟨fun s us ws _ hl => match us, ws, hl with | [], [_], _ => .of_eq rfl | [_], [], _ => .of_eq rfl, fun h1 h2 => h1.append h2⟩
  refine ⟨PySem.W.fnOf "law" "law" (defArgs s_law) (defBody s_law) (defScope s_law) .none kV23 dc23 pm23 an23 cd23 ct23, fun s v => .of_eq rfl, fun base _ _ => ?_⟩
  have GH_draw := ok_drawH (P := l.prog) (w := w) (base := base) F11 Z_len Z_int
  have G__law_draw := fd_draw (P := l.prog) (w := w) (base := base) F11 M11 B11 Z_len Z_int
  have G__law_mixed := fd_mixed (P := l.prog) (w := w) (base := base) F13 M13 B13 Z_len Z_list Z_range M11 k11 B11 GH_draw
  have G__law_pick := ok__law_pick (P := l.prog) (w := w) (base := base) F12 M12 B12 Z_len G__law_draw
  have G__mask := ok__mask (P := l.prog) (w := w) (base := base) F0 M0 B0 Z_sum
  have G__numbers := ok__numbers (P := l.prog) (w := w) (base := base) F1 M1 B1 Z_range Z_tuple
  have G__families_without := ok__families_without (P := l.prog) (w := w) (base := base) F2 M2 B2 Z_range
  have G__one_more := ok__one_more (P := l.prog) (w := w) (base := base) F3 M3 B3 Z_len Z_range
  have G__holding := ok__holding (P := l.prog) (w := w) (base := base) F4 M4 B4 Z_len Z_range
  have G__within := ok__within (P := l.prog) (w := w) (base := base) F5 M5 B5 Z_len Z_range
  have G__members := ok__members (P := l.prog) (w := w) (base := base) F6 M6 B6 Z_len C_MOST G__numbers T_TooMany g_TooMany
  have GK_least_hitting := ok_least_hitting (P := l.prog) (w := w) (base := base) F7 M7 B7 KB_least_hitting Z_max Z_sorted Z_tuple G__members G__one_more G__within G__mask G__families_without
  have G_least_hitting := GK_least_hitting.fd
  have G__are_apart := ok__are_apart (P := l.prog) (w := w) (base := base) F8 M8 B8 Z_len Z_set G__one_more G__holding G__mask G__families_without
  have O_are_lists := okc_are_lists (P := l.prog) (w := w) (base := base) F9 M9 B9 Z_range Z_sorted Z_tuple G_least_hitting G__are_apart
  have KN_are_lists : KBinds K (PySem.W.fnOf "are_lists" "are_lists" (defArgs s_are_lists) (defBody s_are_lists) (defScope s_are_lists) .none kV9 dc9 pm9 an9 cd9 ct9) ["size", "least", "greatest"] ["greatest", "least", "size"] (g3v 2 1 0) (g3v 2 1 0) := ⟨fun s us ws _ hl => match us, ws, hl with | [], [_, _, _], _ => .of_eq rfl, fun h1 h2 => vals_g3 h1 h2⟩
  have GN_are_lists : FdG l.prog w K mg base "are_lists" 4 ["size", "least", "greatest"] ["greatest", "least", "size"] (g3v 2 1 0) (g3v 2 1 0) spX_are_lists := ⟨f9, _, M9, F9.kp, KN_are_lists, O_are_lists⟩
  have G_are_lists : Fd l.prog w K mg base "are_lists" 4 ["size", "least", "greatest"] spX_are_lists := ⟨f9, _, M9, F9.kp, B9, O_are_lists⟩
  have G__law_subsets := ok__law_subsets (P := l.prog) (w := w) (base := base) F15 M15 B15 
  have G__law_least_of := ok__law_least_of (P := l.prog) (w := w) (base := base) F16 M16 B16 Z_sorted
  have G__law_hits := ok__law_hits (P := l.prog) (w := w) (base := base) F17 M17 B17 
  have G__law_drawn_sets := ok__law_drawn_sets (P := l.prog) (w := w) (base := base) F18 M18 B18 Z_range Z_sorted Z_tuple G__law_pick G__law_draw G__law_mixed
  have G__law_is_least := ok__law_is_least (P := l.prog) (w := w) (base := base) F19 M19 B19 G__law_hits
  have G__law_lot_of_rows := ok__law_lot_of_rows (P := l.prog) (w := w) (base := base) F20 M20 B20 Z_int Z_len Z_range Z_sorted Z_tuple G__law_subsets G__law_draw
  have G__law_many_rows := ok__law_many_rows (P := l.prog) (w := w) (base := base) F21 M21 B21 Z_list Z_range Z_sorted Z_tuple G__law_mixed G__law_pick G__law_lot_of_rows G__law_draw
  have G__law_rest := ok__law_rest (P := l.prog) (w := w) (base := base) F22 M22 B22 Z_range Z_sorted Z_tuple
  have R14_0 := ok__law_same_0 (P := l.prog) (w := w) (base := base) F14 M14 B14 Z_bool Z_int Z_isinstance Z_len Z_range Z_str Z_tuple (Fd.bot (k := 1) M14 k14 B14)
  have R14_1 := ok__law_same_1 (P := l.prog) (w := w) (base := base) F14 M14 B14 Z_bool Z_int Z_isinstance Z_len Z_range Z_str Z_tuple R14_0
  have R14_2 := ok__law_same_2 (P := l.prog) (w := w) (base := base) F14 M14 B14 Z_bool Z_int Z_isinstance Z_len Z_range Z_str Z_tuple R14_1
  have G__law_same := R14_2
  exact ok_law F23 M10 k10 B10 (ok_flowH F10 Z_int Z_abs) Z_bool Z_int Z_isinstance Z_len Z_list Z_max Z_range Z_sorted Z_tuple G_are_lists G__law_draw G__law_rest G__law_same G_least_hitting GK_least_hitting G__law_least_of G__law_is_least G__law_many_rows G__law_drawn_sets G__law_mixed GN_are_lists
end Law

open PySem PySem.W PyProof.Rows
set_option Elab.async false
set_option maxRecDepth 100000 in
set_option maxHeartbeats 0 in
theorem PySem.Challenge.cw_bagreach_k46_hitting_there_and_back_holds : PySem.Challenge.rw_bagreach_k46_hitting_there_and_back.Holds := by
  w_on; o_law; k_head; (case hw => w_witness2)
  k_fill
  refine L2.walk_of (l := PySem.Challenge.rw_bagreach_k46_hitting_there_and_back) (n := 63) (k := 5) (x := "script") (CX := fun w => L2.CX PySem.Challenge.rw_bagreach_k46_hitting_there_and_back.prog w) (sp := fun w => Law.spLawH _) rfl (by decide) rfl ⟨rfl, by decide, by decide⟩ (fun w h Y => PySem.W.kIn_of Y) ?F (fun _ _ a ns hl _ hS => ⟨a, ns, rfl, hS, Nat.le_trans hl (by decide), fun _ _ e => e⟩) (fun _ _ _ _ _ h => Law.cx_end h)
  case F =>
    intro w mg fa h KX G hmg
    refine' Law.all_mk KX G hmg ?a0 ?l0 ?c0 ?k0 ?a1 ?l1 ?c1 ?k1 ?a2 ?l2 ?c2 ?k2 ?a3 ?l3 ?c3 ?k3 ?a4 ?l4 ?c4 ?k4 ?a5 ?l5 ?c5 ?k5 ?a6 ?l6 ?c6 ?k6 ?a7 ?l7 ?c7 ?k7 ?a8 ?l8 ?c8 ?k8 ?a9 ?l9 ?c9 ?k9 ?a10 ?l10 ?c10 ?k10 ?a11 ?l11 ?c11 ?k11 ?a12 ?l12 ?c12 ?k12 ?a13 ?l13 ?c13 ?k13 ?a14 ?l14 ?c14 ?k14 ?a15 ?l15 ?c15 ?k15 ?a16 ?l16 ?c16 ?k16 ?a17 ?l17 ?c17 ?k17 ?a18 ?l18 ?c18 ?k18 ?a19 ?l19 ?c19 ?k19 ?a20 ?l20 ?c20 ?k20 ?a21 ?l21 ?c21 ?k21 ?a22 ?l22 ?c22 ?k22 ?a23 ?l23 ?c23 ?k23 ?z0 ?z1 ?z2 ?z3 ?z4 ?z5 ?z6 ?z7 ?z8 ?z9 ?z10 ?z11 ?z12 ?n_MOST ?e_C ?e_hs ?e_q ?e_kp ?e_ty
    (case a0 => k_is)
    (case l0 => k_is)
    (case c0 => k_is)
    (case k0 => k_is)
    (case a1 => k_is)
    (case l1 => k_is)
    (case c1 => k_is)
    (case k1 => k_is)
    (case a2 => k_is)
    (case l2 => k_is)
    (case c2 => k_is)
    (case k2 => k_is)
    (case a3 => k_is)
    (case l3 => k_is)
    (case c3 => k_is)
    (case k3 => k_is)
    (case a4 => k_is)
    (case l4 => k_is)
    (case c4 => k_is)
    (case k4 => k_is)
    (case a5 => k_is)
    (case l5 => k_is)
    (case c5 => k_is)
    (case k5 => k_is)
    (case a6 => k_is)
    (case l6 => k_is)
    (case c6 => k_is)
    (case k6 => k_is)
    (case a7 => k_is)
    (case l7 => k_is)
    (case c7 => k_is)
    (case k7 => k_is)
    (case a8 => k_is)
    (case l8 => k_is)
    (case c8 => k_is)
    (case k8 => k_is)
    (case a9 => k_is)
    (case l9 => k_is)
    (case c9 => k_is)
    (case k9 => k_is)
    (case a10 => k_is)
    (case l10 => k_is)
    (case c10 => k_is)
    (case k10 => k_is)
    (case a11 => k_is)
    (case l11 => k_is)
    (case c11 => k_is)
    (case k11 => k_is)
    (case a12 => k_is)
    (case l12 => k_is)
    (case c12 => k_is)
    (case k12 => k_is)
    (case a13 => k_is)
    (case l13 => k_is)
    (case c13 => k_is)
    (case k13 => k_is)
    (case a14 => k_is)
    (case l14 => k_is)
    (case c14 => k_is)
    (case k14 => k_is)
    (case a15 => k_is)
    (case l15 => k_is)
    (case c15 => k_is)
    (case k15 => k_is)
    (case a16 => k_is)
    (case l16 => k_is)
    (case c16 => k_is)
    (case k16 => k_is)
    (case a17 => k_is)
    (case l17 => k_is)
    (case c17 => k_is)
    (case k17 => k_is)
    (case a18 => k_is)
    (case l18 => k_is)
    (case c18 => k_is)
    (case k18 => k_is)
    (case a19 => k_is)
    (case l19 => k_is)
    (case c19 => k_is)
    (case k19 => k_is)
    (case a20 => k_is)
    (case l20 => k_is)
    (case c20 => k_is)
    (case k20 => k_is)
    (case a21 => k_is)
    (case l21 => k_is)
    (case c21 => k_is)
    (case k21 => k_is)
    (case a22 => k_is)
    (case l22 => k_is)
    (case c22 => k_is)
    (case k22 => k_is)
    (case a23 => k_is)
    (case l23 => k_is)
    (case c23 => k_is)
    (case k23 => k_is)
    (case z0 => k_is)
    (case z1 => k_is)
    (case z2 => k_is)
    (case z3 => k_is)
    (case z4 => k_is)
    (case z5 => k_is)
    (case z6 => k_is)
    (case z7 => k_is)
    (case z8 => k_is)
    (case z9 => k_is)
    (case z10 => k_is)
    (case z11 => k_is)
    (case z12 => k_is)
    (case n_MOST => k_is)
    (case e_C => k_is)
    (case e_hs => k_is)
    (case e_q => k_exc)
    (case e_kp => k_is)
    (case e_ty => k_is)
